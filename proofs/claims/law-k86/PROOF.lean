import PyProof.Rows.All
import Wide.All
import OpenK.AllK
import Wide.FinOn
import HandS.Head0
import HandS.Head1
import HandS.Head2
import HandS.HeadEnd
import HandS.HeadHook1
import HandS.HeadHook2
import HandS.HeadHook3
import HandS.Words
import HandS.ForMost
import HandS.ForExc
import HandS.Defaults
import HandS.Flow
import HandS.TupAny
import HandS.Style
import KE.KeyNested
import HandS.Conv
import KE.KDictList
import PyProof.CollectStr
import HandS.IsInst
import HandS.CallSlots
import KE.GoesEnum
import KE.GoesNew
import KE.GoesMore
import HandS.More
import KE.KDictKeyed
import HandS.SetFor
import HandS.Strs
import HandS.Replace
import HandS.Text
import PySem.Challenge.RW_nevercounts_k86_whole_games_keep_joining
section
set_option Elab.async false
set_option linter.all false
set_option maxRecDepth 100000
set_option maxHeartbeats 4000000
/-! PS0: what the head is asked for. It stands ahead of all, so that the head's run finds an empty memory. -/
namespace PS
open PySem PySem.Spec L2
open PyProof.Rows hiding St
/-! ### a Hook: facts, defs, tables with text keys, one more Bool -/
abbrev AlQ : Type := He.AlT × Bool
def obsQ (fa : List He.Fa) (fn : List He.DefD) (ts : List He.Tab) (bx : PySem.W.Frag → Bool) (K : PySem.W.Frag) : AlQ := (He.obsT fa fn ts K, bx K)
def valQ (fn : List He.DefD) (ts : List He.Tab) (w : World) : AlQ := (He.valT fn ts w, true)
def obsQG (n : Nat) (fa : List He.Fa) (fn : List He.DefD) (ts : List He.Tab) (bx : PySem.W.Frag → Bool) (g : Addr → Option Obj) : AlQ := obsQ fa fn ts bx (He.frG g (He.asD g n))
def SaysQ (fa : List He.Fa) (fn : List He.DefD) (ts : List He.Tab) (bx : PySem.W.Frag → Bool) (w : World) (K : PySem.W.Frag) : Prop := obsQ fa fn ts bx K = valQ fn ts w
def hookQ (n : Nat) (fa : List He.Fa) (fn : List He.DefD) (ts : List He.Tab) (bx : PySem.W.Frag → Bool) : PySem.W.Hook where
  α := AlQ
  obs := fun s => obsQG n fa fn ts bx s.heap.get?
  val := fun w => valQ fn ts w
  says := fun w h => ∃ K : PySem.W.Frag, K.In h ∧ SaysQ fa fn ts bx w K
  of := fun _ _ e => ⟨_, He.frG_in, e⟩
  keeps := fun _ _ _ ⟨K, hK, c⟩ k => ⟨K, PySem.W.Frag.In.keeps hK k, c⟩
theorem obsQG_eq {n : Nat} {fa : List He.Fa} {fn : List He.DefD} {ts : List He.Tab} {bx : PySem.W.Frag → Bool} {g : Addr → Option Obj} {s : Shared} (h : ∀ a, g a = s.heap.get? a) : obsQG n fa fn ts bx g = (hookQ n fa fn ts bx).obs s := by
  have e : g = s.heap.get? := funext h
  rw [e] <;> rfl
section
variable {fa : List He.Fa} {fn : List He.DefD} {ts : List He.Tab} {bx : PySem.W.Frag → Bool} {w : World} {K : PySem.W.Frag}
theorem SaysQ.t (c : SaysQ fa fn ts bx w K) : He.SaysT fa fn ts w K := congrArg (fun z : AlQ => z.1) c
theorem SaysQ.d (c : SaysQ fa fn ts bx w K) : He.SaysD fa fn K := c.t.d
theorem SaysQ.b (c : SaysQ fa fn ts bx w K) : bx K = true := congrArg (fun z : AlQ => z.2) c
theorem SaysQ.keys (c : SaysQ fa fn ts bx w K) (i : Nat) {t : He.Tab} (h : ts[i]? = some t := by rfl) : He.dicW K (t.1 K) = some (He.keysIn w.params t.2) := by
  have e : ts.map (fun t => He.dicW K (t.1 K)) = ts.map fun t => some (He.keysIn w.params t.2) := congrArg (fun z : He.AlT => z.2) c.t
  have e2 : (ts.map fun t => He.dicW K (t.1 K))[i]? = (ts.map fun t => some (He.keysIn w.params t.2))[i]? := by rw [e]
  rw [List.getElem?_map, List.getElem?_map, h] at e2
  exact Option.some.inj e2
end
end PS
end

section
set_option Elab.async false
set_option linter.all false
set_option maxRecDepth 100000
set_option maxHeartbeats 0
namespace Law_k86
open PySem PySem.Spec L2 PS
open PyProof.Rows hiding St
def top (i : Nat) : Stmt := PySem.Challenge.pw_nevercounts_k86_whole_games_keep_joining.main.body.getD i (.Pass ⟨0, 0, 0, 0⟩)
def d0 : He.DefD := ⟨("_law_new", none), "_law_new", "_law_new", defArgs (top 18), defBody (top 18), defScope (top 18), [], []⟩
def d1 : He.DefD := ⟨("_law_draw", none), "_law_draw", "_law_draw", defArgs (top 19), defBody (top 19), defScope (top 19), [], []⟩
def d2 : He.DefD := ⟨("_law_letters", none), "_law_letters", "_law_letters", defArgs (top 21), defBody (top 21), defScope (top 21), [], []⟩
def d3 : He.DefD := ⟨("_law_alphabet", none), "_law_alphabet", "_law_alphabet", defArgs (top 23), defBody (top 23), defScope (top 23), [], []⟩
def d4 : He.DefD := ⟨("_law_word", none), "_law_word", "_law_word", defArgs (top 22), defBody (top 22), defScope (top 22), [], []⟩
def d5 : He.DefD := ⟨("letter_at", none), "letter_at", "letter_at", defArgs (top 12), defBody (top 12), defScope (top 12), [], []⟩
def d6 : He.DefD := ⟨("plain_kind", none), "plain_kind", "plain_kind", defArgs (top 13), defBody (top 13), defScope (top 13), [], []⟩
def d7 : He.DefD := ⟨("kind_number", none), "kind_number", "kind_number", defArgs (top 14), defBody (top 14), defScope (top 14), [], []⟩
def d8 : He.DefD := ⟨("Game", some "wins"), "wins", "Game.wins", defArgs ((inClass (top 15) 6)), defBody ((inClass (top 15) 6)), defScope ((inClass (top 15) 6)), [], []⟩
def d9 : He.DefD := ⟨("check_letters", none), "check_letters", "check_letters", defArgs (top 9), defBody (top 9), defScope (top 9), [], []⟩
def d10 : He.DefD := ⟨("check_word", none), "check_word", "check_word", defArgs (top 10), defBody (top 10), defScope (top 10), [], []⟩
def d11 : He.DefD := ⟨("Game", some "__init__"), "__init__", "Game.__init__", defArgs ((inClass (top 15) 1)), defBody ((inClass (top 15) 1)), defScope ((inClass (top 15) 1)), [], []⟩
def d12 : He.DefD := ⟨("alike", none), "alike", "alike", defArgs (top 16), defBody (top 16), defScope (top 16), [], []⟩
def d13 : He.DefD := ⟨("_law_turned", none), "_law_turned", "_law_turned", defArgs (top 24), defBody (top 24), defScope (top 24), [], []⟩
def d14 : He.DefD := ⟨("_law_same", none), "_law_same", "_law_same", defArgs (top 20), defBody (top 20), defScope (top 20), [], []⟩
def d15 : He.DefD := ⟨("_law_exchanged", none), "_law_exchanged", "_law_exchanged", defArgs (top 25), defBody (top 25), defScope (top 25), [], []⟩
def d16 : He.DefD := ⟨("_law_related", none), "_law_related", "_law_related", defArgs (top 28), defBody (top 28), defScope (top 28), [], []⟩
def d17 : He.DefD := ⟨("_law_loops", none), "_law_loops", "_law_loops", defArgs (top 26), defBody (top 26), defScope (top 26), [], []⟩
def d18 : He.DefD := ⟨("_law_numbers", none), "_law_numbers", "_law_numbers", defArgs (top 27), defBody (top 27), defScope (top 27), [], []⟩
def d19 : He.DefD := ⟨("law", none), "law", "law", defArgs (top 29), defBody (top 29), defScope (top 29), [], []⟩
def fn0 : List He.DefD := [d0, d1, d2, d3, d4, d5, d6, d7, d8, d9, d10, d11, d12, d13, d14, d15, d16, d17, d18, d19]
def fn : List He.DefD := fn0
def fa0 : List He.Fa := [.glo "_law_new", .glo "_law_draw", .glo "_law_letters", .glo "_law_alphabet", .glo "_law_word", .glo "letter_at", .glo "plain_kind", .glo "kind_number", .cls "Game", .meth "Game" "wins", .glo "check_letters", .glo "check_word", .mkr "Game", .glo "Game", .glo "alike", .glo "_law_turned", .glo "_law_same", .glo "_law_exchanged", .glo "_law_related", .glo "_law_loops", .glo "_law_numbers", .glo "law", .free "bool", .free "enumerate", .free "int", .free "isinstance", .free "len", .free "list", .free "max", .free "range"]
def fa1 : List He.Fa := [.free "set", .free "sorted", .free "str", .free "tuple", .noat "Game" "letters", .noat "Game" "pairs", .noat "Game" "rounds", .noat "Game" "words", .int "MOST_LETTERS" 3, .str "SMALL" (Str.ofString "abcdefghijklmnopqrstuvwxyz")]
def fa : List He.Fa := fa0 ++ fa1
def ts : List He.Tab := []
def bx (K : PySem.W.Frag) : Bool := He.conB K "Game" "MOST_ROUNDS" (.int 3)
def loose0 : List Str := ["_wall", "__name__", "ToolError", "LettersError", "LetterError", "LimitError", "MOST_LETTERS", "SMALL", "check_letters", "check_word", "letter_at", "plain_kind", "kind_number", "Game", "alike", "_law_new", "_law_draw", "_law_same", "_law_letters", "_law_word", "_law_alphabet", "_law_turned", "_law_exchanged", "_law_loops", "_law_numbers", "_law_related"]
def loose : List Str := loose0
abbrev R : PySem.W.OpenRow := PySem.W.OpenLaw.row PySem.Challenge.rw_nevercounts_k86_whole_games_keep_joining
abbrev hk : PySem.W.Hook := hookQ 5 fa fn ts bx
def ob (s : PySem.W.SharedT) : AlQ := obsQG 5 fa fn ts bx (HandSHeadRun.getT s)
theorem ob_eq (s : PySem.W.SharedT) : ob s = hk.obs s.abs := obsQG_eq (HandSHeadRun.getT_eq s)
theorem runF (w : World) : HandSHeadRun.RunEq R (PySem.W.view R.prog [29]) hk ob 3000 loose (w.withFollow "special-get-raises" false) := fun os => by kernel_rfl
theorem runT (w : World) : HandSHeadRun.RunEq R (PySem.W.view R.prog [29]) hk ob 3000 loose (w.withFollow "special-get-raises" true) := fun os => by kernel_rfl
theorem run (w : World) : HandSHeadRun.RunEq R (PySem.W.view R.prog [29]) hk ob 3000 loose w :=
  PySem.W.byRow2 "special-get-raises" (P := fun w => HandSHeadRun.RunEq R (PySem.W.view R.prog [29]) hk ob 3000 loose w) runF runT w
end Law_k86
end

section
/-! PW: the plain world. Data without a heap, slots, and what code of the program is worth over them. No model of Python here. -/
set_option linter.all false
namespace PW
/-- data (dic: a dict with ints and texts as keys; dit: one with tuples as keys) -/
inductive D where
  | non | bl (b : Bool) | int (i : Int) | str (s : List Nat)
  | tup (ds : List D) | lst (ds : List D) | dic (kvs : List (D × D)) | dit (kvs : List (D × D))
  | obj (c : String) (fs : List (String × D))
  | scr (ds : List Int)
  deriving Inhabited

/-- a slot: unset; shared; owned (made here, stored nowhere else); borrowed from the caller, to be changed; borrowed, to be read -/
inductive Sl where
  | un | sh (d : D) | ow (d : D) | bo (d : D) | rd (d : D)
  deriving Inhabited
abbrev Env := List Sl
/-- an error: its class, its fields -/
structure Exn where
  cls : String
  fs : List (String × D)
/-- what a def hands back: shared data, a new object, its own i-th argument -/
inductive Ret where
  | sh (d : D) | fr (d : D) | arg (i : Nat)
abbrev XC := Exn → Env → Prop
abbrev WE := XC → Env → (D → Env → Prop) → Prop
abbrev WT := XC → Env → (Bool → Env → Prop) → Prop
abbrev WA := XC → Env → (List D → Env → Prop) → Prop
/-- something that may be looked at, now and later -/
abbrev Pk := Env → (D → Prop) → Prop
abbrev WR := XC → Env → (Pk → Env → Prop) → Prop
structure Ends where
  nx : Env → Prop
  rt : Ret → Env → Prop
  bk : Env → Prop := fun _ => False
  ct : Env → Prop := fun _ => False
abbrev WS := XC → Ends → Env → Prop
/-- the longest list, text -/
def line : Nat := 16777216

/-! ### names, constants -/
def wC (d : D) : WE := fun _ ρ Q => Q d ρ
def wV (i : Nat) : WE := fun _ ρ Q => match ρ[i]? with
  | some (.sh d) => Q d ρ
  | some (.ow d) => Q d (ρ.set i (.sh d))
  | _ => False
def peek (ρ : Env) (i : Nat) (q : D → Prop) : Prop := match ρ[i]? with
  | some (.sh d) => q d
  | some (.ow d) => q d
  | some (.bo d) => q d
  | some (.rd d) => q d
  | _ => False
/-- a name, looked at -/
def rN (i : Nat) : WR := fun _ ρ k => peek ρ i (fun _ => True) ∧ k (fun ρ' q => peek ρ' i q) ρ
/-- an expression's value, looked at -/
def rE (w : WE) : WR := fun ex ρ k => w ex ρ fun d ρ' => k (fun _ q => q d) ρ'

/-! ### operators by values -/
abbrev F1 := D → (D → Prop) → Prop
abbrev F2 := D → D → (D → Prop) → Prop
def wUn (f : F1) (a : WE) : WE := fun ex ρ Q => a ex ρ fun x ρ' => f x fun r => Q r ρ'
def wBin (f : F2) (a b : WE) : WE := fun ex ρ Q => a ex ρ fun x ρ1 => b ex ρ1 fun y ρ2 => f x y fun r => Q r ρ2
/-- one look: f of what is looked at -/
def wLk (f : F1) (a : WR) : WE := fun ex ρ Q => a ex ρ fun p ρ' => p ρ' fun x => f x fun r => Q r ρ'
/-- a look, then a value: f of both -/
def wLk2 (f : F2) (a : WR) (b : WE) : WE := fun ex ρ Q => a ex ρ fun p ρ1 => b ex ρ1 fun y ρ2 => p ρ2 fun x => f x y fun r => Q r ρ2
/-- a value, then a look: f of both -/
def wLkR (f : F2) (a : WE) (b : WR) : WE := fun ex ρ Q => a ex ρ fun x ρ1 => b ex ρ1 fun p ρ2 => p ρ2 fun y => f x y fun r => Q r ρ2
/-- two looks -/
def wLkB (f : F2) (a b : WR) : WE := fun ex ρ Q => a ex ρ fun p ρ1 => b ex ρ1 fun p' ρ2 => p ρ2 fun x => p' ρ2 fun y => f x y fun r => Q r ρ2

def fAdd : F2 := fun x y Q => match x, y with
  | .int i, .int j => Q (.int (i + j))
  | .str s, .str t => s.length + t.length ≤ line ∧ Q (.str (s ++ t))
  | .tup a, .tup b => a.length + b.length ≤ line ∧ Q (.tup (a ++ b))
  | _, _ => False
def fSub : F2 := fun x y Q => match x, y with
  | .int i, .int j => Q (.int (i - j))
  | _, _ => False
/-- small: below 2 ^ 64 -/
def small (i : Int) : Prop := -(2 ^ 64) < i ∧ i < 2 ^ 64
def repL {α : Type} (s : List α) : Nat → List α
  | 0 => []
  | n + 1 => s ++ repL s n
def fMul : F2 := fun x y Q => match x, y with
  | .int i, .int j => (small i ∨ small j) ∧ Q (.int (i * j))
  | .str s, .int n => ((-(line : Int) ≤ n ∧ n ≤ line) ∧ s.length * n.toNat ≤ line) ∧ Q (.str (repL s n.toNat))
  | _, _ => False
def fFdiv : F2 := fun x y Q => match x, y with
  | .int i, .int j => (0 < j ∧ j < 1073741824) ∧ Q (.int (i / j))
  | _, _ => False
def fMod : F2 := fun x y Q => match x, y with
  | .int i, .int j => 0 < j ∧ Q (.int (i % j))
  | _, _ => False
def fPow : F2 := fun x y Q => match x, y with
  | .int i, .int j => (0 ≤ j ∧ j ≤ 1000000 ∧ i.natAbs < 2 ^ 64) ∧ Q (.int (i ^ j.toNat))
  | _, _ => False
def fShl : F2 := fun x y Q => match x, y with
  | .int i, .int j => (0 ≤ j ∧ j ≤ 1000000 ∧ i.natAbs < 2 ^ 64) ∧ Q (.int (i * 2 ^ j.toNat))
  | _, _ => False
def fShr : F2 := fun x y Q => match x, y with
  | .int i, .int j => 0 ≤ j ∧ Q (.int (i / 2 ^ j.toNat))
  | _, _ => False
/-- & | ^ of numbers that are not negative -/
def fAnd : F2 := fun x y Q => match x, y with
  | .int i, .int j => (0 ≤ i ∧ 0 ≤ j) ∧ Q (.int ((i.toNat &&& j.toNat : Nat)))
  | _, _ => False
def fOr : F2 := fun x y Q => match x, y with
  | .int i, .int j => (0 ≤ i ∧ 0 ≤ j) ∧ Q (.int ((i.toNat ||| j.toNat : Nat)))
  | _, _ => False
def fXor : F2 := fun x y Q => match x, y with
  | .int i, .int j => (0 ≤ i ∧ 0 ≤ j) ∧ Q (.int ((i.toNat ^^^ j.toNat : Nat)))
  | _, _ => False
def fNeg : F1 := fun x Q => match x with
  | .int i => Q (.int (-i))
  | _ => False
/-! ### comparisons -/
def fLt : F2 := fun x y Q => match x, y with
  | .int i, .int j => Q (.bl (decide (i < j)))
  | .str s, .str t => Q (.bl (decide (s < t)))
  | _, _ => False
def fLe : F2 := fun x y Q => match x, y with
  | .int i, .int j => Q (.bl (decide (i ≤ j)))
  | .str s, .str t => Q (.bl (decide (s ≤ t)))
  | _, _ => False
def fGt : F2 := fun x y Q => match x, y with
  | .int i, .int j => Q (.bl (decide (j < i)))
  | .str s, .str t => Q (.bl (decide (t < s)))
  | _, _ => False
def fGe : F2 := fun x y Q => match x, y with
  | .int i, .int j => Q (.bl (decide (j ≤ i)))
  | .str s, .str t => Q (.bl (decide (t ≤ s)))
  | _, _ => False
def b2i (b : Bool) : Int := if b then 1 else 0
/-! == of data -/
mutual
def eqv : D → D → Bool
  | .non, y => match y with
    | .non => true
    | _ => false
  | .bl a, y => match y with
    | .bl b => a == b
    | .int j => b2i a == j
    | _ => false
  | .int i, y => match y with
    | .int j => i == j
    | .bl b => i == b2i b
    | _ => false
  | .str s, y => match y with
    | .str t => s == t
    | _ => false
  | .tup a, y => match y with
    | .tup b => eqvL a b
    | _ => false
  | .lst a, y => match y with
    | .lst b => eqvL a b
    | _ => false
  | _, _ => false
def eqvL : List D → List D → Bool
  | [], y => y.isEmpty
  | a :: as, y => match y with
    | [] => false
    | b :: bs => eqv a b && eqvL as bs
end
/-! plain to the depth n: none, bools, ints, texts, tuples and lists of such -/
mutual
def plain : D → Nat → Bool
  | .non, _ => true
  | .bl _, _ => true
  | .int _, _ => true
  | .str s, _ => s.all fun c => decide (c < 0x110000)
  | .tup a, n => match n with
    | 0 => false
    | n + 1 => plainL a n
  | .lst a, n => match n with
    | 0 => false
    | n + 1 => plainL a n
  | _, _ => false
def plainL : List D → Nat → Bool
  | [], _ => true
  | a :: as, n => plain a n && plainL as n
end
def fEq : F2 := fun x y Q => (plain x 60 = true ∧ plain y 60 = true) ∧ Q (.bl (eqv x y))
def fNe : F2 := fun x y Q => (plain x 60 = true ∧ plain y 60 = true) ∧ Q (.bl (!eqv x y))
def isNon : D → Bool
  | .non => true
  | _ => false
def fIsNone : F1 := fun x Q => Q (.bl (isNon x))
def fIsntNone : F1 := fun x Q => Q (.bl (!isNon x))
/-- a flat thing: none, a bool, an int, a text -/
def flat : D → Bool
  | .non => true
  | .bl _ => true
  | .int _ => true
  | .str _ => true
  | _ => false
def fIn : F2 := fun x y Q => match y with
  | .lst ds => (flat x = true ∧ ds.all flat = true) ∧ Q (.bl (ds.any fun d => eqv d x))
  | .tup ds => (flat x = true ∧ ds.all flat = true) ∧ Q (.bl (ds.any fun d => eqv d x))
  | .str t => (match x with
    | .str [c] => Q (.bl (decide (c ∈ t)))
    | _ => False)
  | _ => False
def fNotIn : F2 := fun x y Q => fIn x y fun r => match r with
  | .bl b => Q (.bl (!b))
  | _ => False
/-! ### places -/
def ixN (n : Nat) (i : Int) : Option Nat := if 0 ≤ i then (if i < n then some i.toNat else none) else if -(n : Int) ≤ i then some (i + n).toNat else none
def atI {α : Type} (xs : List α) (i : Int) : Option α := (ixN xs.length i).bind fun j => xs[j]?
def fIx : F2 := fun x y Q => match x, y with
  | .lst ds, .int i => (match atI ds i with
    | some d => Q d
    | none => False)
  | .tup ds, .int i => (match atI ds i with
    | some d => Q d
    | none => False)
  | .str s, .int i => s.length ≤ line ∧ (match atI s i with
    | some c => Q (.str [c])
    | none => False)
  | _, _ => False
/-- a bound of a slice -/
def sIx (n d : Nat) : Option Int → Nat
  | none => d
  | some i => if i < 0 then (i + n).toNat else min i.toNat n
def cut {α : Type} (xs : List α) (lo hi : Option Int) : List α := (xs.drop (sIx xs.length 0 lo)).take (sIx xs.length xs.length hi - sIx xs.length 0 lo)
def wPart (p : Option WE) : XC → Env → (Option Int → Env → Prop) → Prop := fun ex ρ k => match p with
  | none => k none ρ
  | some w => w ex ρ fun d ρ' => match d with
    | .int i => k (some i) ρ'
    | _ => False
def fSl (x : D) (lo hi : Option Int) (Q : D → Prop) : Prop := match x with
  | .tup ds => Q (.tup (cut ds lo hi))
  | .str s => s.length ≤ line ∧ Q (.str (cut s lo hi))
  | _ => False
/-- t[lo:hi] of a tuple, a text -/
def wSl (a : WR) (lo hi : Option WE) : WE := fun ex ρ Q => a ex ρ fun p ρ1 => wPart lo ex ρ1 fun l ρ2 => wPart hi ex ρ2 fun h ρ3 => p ρ3 fun x => fSl x l h fun r => Q r ρ3
/-! ### built-ins -/
def fLen : F1 := fun x Q => match x with
  | .lst ds => Q (.int ds.length)
  | .tup ds => Q (.int ds.length)
  | .str s => s.length ≤ line ∧ Q (.int s.length)
  | _ => False
def fInt : F1 := fun x Q => match x with
  | .int i => Q (.int i)
  | .bl b => Q (.int (b2i b))
  | _ => False
def fAbs : F1 := fun x Q => match x with
  | .int i => Q (.int (if i < 0 then -i else i))
  | _ => False
def fMax2 : F2 := fun x y Q => match x, y with
  | .int i, .int j => Q (.int (if j > i then j else i))
  | _, _ => False
def fMin2 : F2 := fun x y Q => match x, y with
  | .int i, .int j => Q (.int (if j < i then j else i))
  | _, _ => False
/-- tuple(x) -/
def fTuple : F1 := fun x Q => match x with
  | .lst ds => Q (.tup ds)
  | .tup ds => Q (.tup ds)
  | _ => False
/-- list(x), a new object -/
def fList : F1 := fun x Q => match x with
  | .scr ns => Q (.lst (ns.map .int))
  | .lst ds => Q (.lst ds)
  | .tup ds => Q (.lst ds)
  | .str s => s.length ≤ line ∧ Q (.lst (s.map fun c => .str [c]))
  | _ => False
def intsOf : List D → Option (List Int)
  | [] => some []
  | .int i :: ds => (intsOf ds).map (i :: ·)
  | _ :: _ => none
def fMaxL : F1 := fun x Q => match x with
  | .lst ds => ∃ ns, intsOf ds = some ns ∧ ns ≠ [] ∧ ∀ m, m ∈ ns → (∀ y, y ∈ ns → y ≤ m) → Q (.int m)
  | _ => False
def fMinL : F1 := fun x Q => match x with
  | .lst ds => ∃ ns, intsOf ds = some ns ∧ ns ≠ [] ∧ ∀ m, m ∈ ns → (∀ y, y ∈ ns → m ≤ y) → Q (.int m)
  | _ => False
inductive Ty where
  | int | bool | str | list | tuple
/-- isinstance(x, T), T a built-in type -/
def isTy : Ty → D → Option Bool
  | .int, .int _ => some true
  | .int, .bl _ => some true
  | .bool, .bl _ => some true
  | .str, .str _ => some true
  | .list, .lst _ => some true
  | .tuple, .tup _ => some true
  | _, .obj _ _ => none
  | _, .dic _ => none
  | _, .dit _ => none
  | _, .scr _ => none
  | _, _ => some false
def fIs (t : Ty) : F1 := fun x Q => match isTy t x with
  | some b => Q (.bl b)
  | none => False
/-- isinstance(x, C), C a class of one's own: cs it and the classes below it -/
def fIsO (cs : List String) : F1 := fun x Q => match x with
  | .obj c _ => Q (.bl (cs.contains c))
  | .dic _ => False
  | .dit _ => False
  | .scr _ => False
  | _ => Q (.bl false)
/-- o.f, o of the class c -/
def fFld (c f : String) : F1 := fun x Q => match x with
  | .obj c' fs => c' = c ∧ (match fs.lookup f with
    | some d => Q d
    | none => False)
  | _ => False
/-- o.F, a constant of the class c -/
def fCon (c f : String) (v : D) : F1 := fun x Q => match x with
  | .obj c' fs => (c' = c ∧ fs.lookup f = none) ∧ Q v
  | _ => False
/-! ### tests -/
def tB (w : WE) : WT := fun ex ρ Q => w ex ρ fun d ρ' => match d with
  | .bl b => Q b ρ'
  | _ => False
def truth : D → Option Bool
  | .non => some false
  | .bl b => some b
  | .int i => some (i != 0)
  | .str s => if s.length ≤ line then some (!s.isEmpty) else none
  | .lst ds => some (!ds.isEmpty)
  | .tup ds => some (!ds.isEmpty)
  | _ => none
/-- any value as a test -/
def tTr (w : WR) : WT := fun ex ρ Q => w ex ρ fun p ρ' => p ρ' fun d => match truth d with
  | some b => Q b ρ'
  | none => False
def tAnd (a b : WT) : WT := fun ex ρ Q => a ex ρ fun c ρ' => if c = true then b ex ρ' Q else Q false ρ'
def tOr (a b : WT) : WT := fun ex ρ Q => a ex ρ fun c ρ' => if c = true then Q true ρ' else b ex ρ' Q
def tNot (a : WT) : WT := fun ex ρ Q => a ex ρ fun c ρ' => Q (!c) ρ'
def wAnd (a b : WE) : WE := fun ex ρ Q => a ex ρ fun x ρ' => match x with
  | .bl c => if c = true then b ex ρ' Q else Q (.bl false) ρ'
  | _ => False
def wOr (a b : WE) : WE := fun ex ρ Q => a ex ρ fun x ρ' => match x with
  | .bl c => if c = true then Q (.bl true) ρ' else b ex ρ' Q
  | _ => False
def wNot (a : WT) : WE := fun ex ρ Q => a ex ρ fun c ρ' => Q (.bl (!c)) ρ'
def wIf (t : WT) (a b : WE) : WE := fun ex ρ Q => t ex ρ fun c ρ' => if c = true then a ex ρ' Q else b ex ρ' Q
/-- a < b < c -/
def wChain (f g : F2) (a b c : WE) : WE := fun ex ρ Q => a ex ρ fun x ρ1 => b ex ρ1 fun y ρ2 => f x y fun r => match r with
  | .bl k => if k = true then c ex ρ2 fun z ρ3 => g y z fun r' => Q r' ρ3 else Q (.bl false) ρ2
  | _ => False
/-! ### arguments, displays -/
def aNil : WA := fun _ ρ Q => Q [] ρ
def aCons (a : WE) (b : WA) : WA := fun ex ρ Q => a ex ρ fun x ρ1 => b ex ρ1 fun xs ρ2 => Q (x :: xs) ρ2
def wTup (a : WA) : WE := fun ex ρ Q => a ex ρ fun xs ρ' => xs.length ≤ line ∧ Q (.tup xs) ρ'
/-- [..], a new object -/
def nLst (a : WA) : WE := fun ex ρ Q => a ex ρ fun xs ρ' => xs.length ≤ line ∧ Q (.lst xs) ρ'
def nCat : F2 := fun x y Q => match x, y with
  | .lst a, .lst b => a.length + b.length ≤ line ∧ Q (.lst (a ++ b))
  | _, _ => False
def nRep : F2 := fun x y Q => match x, y with
  | .lst a, .int n => ((-(line : Int) ≤ n ∧ n ≤ line) ∧ a.length * n.toNat ≤ line) ∧ Q (.lst (repL a n.toNat))
  | _, _ => False
def nSl (x : D) (lo hi : Option Int) (Q : D → Prop) : Prop := match x with
  | .lst ds => Q (.lst (cut ds lo hi))
  | _ => False
def wSlL (a : WR) (lo hi : Option WE) : WE := fun ex ρ Q => a ex ρ fun p ρ1 => wPart lo ex ρ1 fun l ρ2 => wPart hi ex ρ2 fun h ρ3 => p ρ3 fun x => nSl x l h fun r => Q r ρ3
/-! ### calls -/
/-- a def's worth: the arguments by their slots; what is wanted of the end (the value, the arguments behind); of an error -/
abbrev FSpec := List Sl → (Ret → List Sl → Prop) → (Exn → List Sl → Prop) → Prop
/-- an argument: a value; a name that is lent to be changed; one that is lent to be read -/
inductive Ar where
  | v (d : D) | b (i : Nat) | r (i : Nat)
abbrev WB := XC → Env → (List Ar → Env → Prop) → Prop
def bNil : WB := fun _ ρ Q => Q [] ρ
def bV (a : WE) (b : WB) : WB := fun ex ρ Q => a ex ρ fun x ρ1 => b ex ρ1 fun xs ρ2 => Q (.v x :: xs) ρ2
def bB (i : Nat) (b : WB) : WB := fun ex ρ Q => peek ρ i (fun _ => True) ∧ b ex ρ fun xs ρ2 => Q (.b i :: xs) ρ2
def bR (i : Nat) (b : WB) : WB := fun ex ρ Q => peek ρ i (fun _ => True) ∧ b ex ρ fun xs ρ2 => Q (.r i :: xs) ρ2
def lent (ρ : Env) : List Ar → Option (List Sl)
  | [] => some []
  | .v d :: as => (lent ρ as).map (.sh d :: ·)
  | .b i :: as => match ρ[i]? with
    | some (.ow d) => (lent ρ as).map (.bo d :: ·)
    | some (.bo d) => (lent ρ as).map (.bo d :: ·)
    | _ => none
  | .r i :: as => match ρ[i]? with
    | some (.sh d) => (lent ρ as).map (.rd d :: ·)
    | some (.ow d) => (lent ρ as).map (.rd d :: ·)
    | some (.bo d) => (lent ρ as).map (.rd d :: ·)
    | some (.rd d) => (lent ρ as).map (.rd d :: ·)
    | _ => none
def lentB : List Ar → List Nat
  | [] => []
  | .b i :: as => i :: lentB as
  | _ :: as => lentB as
def lentR : List Ar → List Nat
  | [] => []
  | .r i :: as => i :: lentR as
  | _ :: as => lentR as
/-- a name is lent to be changed once, and not read besides -/
def lentOk (as : List Ar) : Bool := (lentB as).Nodup && (lentR as).all fun i => !(lentB as).contains i
/-- what was lent, as it came back -/
def back : List Ar → List Sl → Env → Env
  | .b i :: as, o :: os, ρ => back as os (match ρ[i]?, o with
    | some (.ow _), .bo d => ρ.set i (.ow d)
    | some (.bo _), .bo d => ρ.set i (.bo d)
    | _, _ => ρ)
  | _ :: as, _ :: os, ρ => back as os ρ
  | _, _, ρ => ρ
def call (φ : FSpec) (as : List Ar) (ex : XC) (ρ : Env) (Q : Ret → Env → Prop) : Prop := lentOk as = true ∧ match lent ρ as with
  | some ss => φ ss (fun r os => Q r (back as os ρ)) (fun e os => ex e (back as os ρ))
  | none => False
/-- a call's worth: what it hands back -/
abbrev WK := XC → Env → (Ret → Env → Prop) → Prop
/-- f(..); ds: the defaults that fill up -/
def kCall (φ : FSpec) (ds : List D) (b : WB) : WK := fun ex ρ K => b ex ρ fun as ρ1 => call φ (as ++ ds.map .v) ex ρ1 K
/-- what a method is called of -/
abbrev WO := XC → Env → (Ar → D → Env → Prop) → Prop
def oV (a : WE) : WO := fun ex ρ k => a ex ρ fun d ρ' => k (.v d) d ρ'
def oR (i : Nat) : WO := fun ex ρ k => peek ρ i fun d => k (.r i) d ρ
def oB (i : Nat) : WO := fun ex ρ k => peek ρ i fun d => k (.b i) d ρ
/-- an object of the class c, without a field m -/
def isObj (c m : String) : D → Prop
  | .obj c' fs => c' = c ∧ fs.lookup m = none
  | _ => False
/-- o.m(..) -/
def kMeth (c m : String) (o : WO) (φ : FSpec) (ds : List D) (b : WB) : WK := fun ex ρ K => o ex ρ fun ar d ρ1 => isObj c m d ∧ b ex ρ1 fun as ρ2 => call φ (ar :: (as ++ ds.map .v)) ex ρ2 K
/-- C(..), a new object: __init__ borrows it -/
def kMake (c : String) (φ : FSpec) (ds : List D) (b : WB) : WK := fun ex ρ K => b ex ρ fun as ρ1 =>
  call φ (.b ρ1.length :: (as ++ ds.map .v)) (fun e ρ2 => ex e (ρ2.take ρ1.length)) (ρ1 ++ [.ow (.obj c [])]) fun r ρ2 => match r, ρ2[ρ1.length]? with
    | .sh .non, some (.ow d) => K (.fr d) (ρ2.take ρ1.length)
    | _, _ => False
/-- a shared value -/
def wSh (k : WK) : WE := fun ex ρ Q => k ex ρ fun r ρ' => match r with
  | .sh d => Q d ρ'
  | _ => False
/-- a new object -/
def nFr (k : WK) : WE := fun ex ρ Q => k ex ρ fun r ρ' => match r with
  | .fr d => Q d ρ'
  | _ => False



/-! ### a written dict with text keys; in by an own __contains__ -/
def fTab (kvs : List (List Nat × D)) : F1 := fun x Q => match x with
  | .str s => (match kvs.lookup s with
    | some d => Q d
    | none => False)
  | _ => False
def fInTab (kvs : List (List Nat × D)) : F1 := fun x Q => match x with
  | .str s => Q (.bl (kvs.lookup s).isSome)
  | _ => False
def fNInTab (kvs : List (List Nat × D)) : F1 := fun x Q => match x with
  | .str s => Q (.bl (!(kvs.lookup s).isSome))
  | _ => False
def isCls (c : String) : D → Prop
  | .obj c' _ => c' = c
  | _ => False
/-- x in o, nothing raised -/
def wInO (c : String) (a : WE) (φ : FSpec) (o : WO) : WE := fun ex ρ Q => a ex ρ fun x ρ1 => o ex ρ1 fun ar d ρ2 => isCls c d ∧ call φ [ar, .v x] (fun _ _ => False) ρ2 fun r ρ3 => match r with
  | .sh (.bl b) => Q (.bl b) ρ3
  | _ => False
def wNInO (c : String) (a : WE) (φ : FSpec) (o : WO) : WE := fun ex ρ Q => wInO c a φ o ex ρ fun x ρ' => match x with
  | .bl b => Q (.bl (!b)) ρ'
  | _ => False

/-! ### statements -/
def sSeq (a b : WS) : WS := fun ex E ρ => a ex { E with nx := b ex E } ρ
def sPass : WS := fun _ E ρ => E.nx ρ
def sBreak : WS := fun _ E ρ => E.bk ρ
def sCont : WS := fun _ E ρ => E.ct ρ
def sNever : WS := fun _ _ _ => False
def sExpr (a : WE) : WS := fun ex E ρ => a ex ρ fun _ ρ' => E.nx ρ'
/-- a slot that may be stored to -/
def isBo : Sl → Bool
  | .bo _ => true
  | _ => false
theorem isBo_sh (d : D) : isBo (.sh d) = false := rfl
theorem isBo_un : isBo .un = false := rfl
theorem isBo_ow (d : D) : isBo (.ow d) = false := rfl
theorem isBo_rd (d : D) : isBo (.rd d) = false := rfl
def free (ρ : Env) (i : Nat) : Bool := match ρ[i]? with
  | some s => !isBo s
  | none => false
abbrev WG := D → Env → (Env → Prop) → Prop
def gN (i : Nat) : WG := fun d ρ k => free ρ i = true ∧ k (ρ.set i (.sh d))
def gUn : List WG → List D → Env → (Env → Prop) → Prop
  | [], [], ρ, k => k ρ
  | g :: gs, d :: ds, ρ, k => g d ρ fun ρ' => gUn gs ds ρ' k
  | _, _, _, _ => False
/-- a, b, .. = a tuple -/
def gT (gs : List WG) : WG := fun d ρ k => match d with
  | .tup ds => gUn gs ds ρ k
  | _ => False
def sSet (i : Nat) (a : WE) : WS := fun ex E ρ => a ex ρ fun d ρ' => gN i d ρ' E.nx
/-- x = a new object -/
def sNew (i : Nat) (a : WE) : WS := fun ex E ρ => a ex ρ fun d ρ' => free ρ' i = true ∧ E.nx (ρ'.set i (.ow d))
def sAsg (g : WG) (a : WE) : WS := fun ex E ρ => a ex ρ fun d ρ' => g d ρ' E.nx
def sRet (a : WE) : WS := fun ex E ρ => a ex ρ fun d ρ' => E.rt (.sh d) ρ'
def sRetN : WS := fun _ E ρ => E.rt (.sh .non) ρ
def sRetF (a : WE) : WS := fun ex E ρ => a ex ρ fun d ρ' => E.rt (.fr d) ρ'
/-- return x, an owned name -/
def sRetO (i : Nat) : WS := fun _ E ρ => match ρ[i]? with
  | some (.ow d) => E.rt (.fr d) (ρ.set i .un)
  | _ => False
def sIf (t : WT) (a b : WS) : WS := fun ex E ρ => t ex ρ fun c ρ' => if c = true then a ex E ρ' else b ex E ρ'
/-- xs.append(e) -/
def putO (ρ : Env) (i : Nat) (f : D → (D → Prop) → Prop) (k : Env → Prop) : Prop := match ρ[i]? with
  | some (.ow d) => f d fun d' => k (ρ.set i (.ow d'))
  | some (.bo d) => f d fun d' => k (ρ.set i (.bo d'))
  | _ => False
def isLst : D → Prop
  | .lst _ => True
  | _ => False
def sApp (i : Nat) (a : WE) : WS := fun ex E ρ => peek ρ i isLst ∧ a ex ρ fun y ρ' => putO ρ' i (fun d k => match d with
  | .lst ds => ds.length < line ∧ k (.lst (ds ++ [y]))
  | _ => False) E.nx
/-- xs[j] = e -/
def sPut (i : Nat) (j a : WE) : WS := fun ex E ρ => a ex ρ fun y ρ1 => peek ρ1 i (fun _ => True) ∧ j ex ρ1 fun jx ρ2 => putO ρ2 i (fun d k => match d, jx with
  | .lst ds, .int n => (match ixN ds.length n with
    | some m => k (.lst (ds.set m y))
    | none => False)
  | _, _ => False) E.nx
def putF (f : String) (v : D) : List (String × D) → List (String × D)
  | [] => [(f, v)]
  | p :: r => if p.1 = f then (f, v) :: r else p :: putF f v r
/-- o.f = e -/
def sFld (i : Nat) (c f : String) (a : WE) : WS := fun ex E ρ => a ex ρ fun y ρ' => putO ρ' i (fun d k => match d with
  | .obj c' fs => c' = c ∧ fs.length < 900 ∧ k (.obj c' (putF f y fs))
  | _ => False) E.nx
/-- an error of the class c is raised -/
def sRaise (c : String) (fs : List String) (a : WA) : WS := fun ex _ ρ => a ex ρ fun ds ρ' => ex ⟨c, fs.zip ds⟩ ρ'
/-! ### loops -/
/-- what is walked: its items -/
abbrev WI := XC → Env → (List D → Env → Prop) → Prop
/-- a list, a tuple (shared) -/
def iSeq (a : WE) : WI := fun ex ρ k => a ex ρ fun d ρ' => match d with
  | .lst ds => k ds ρ'
  | .tup ds => k ds ρ'
  | _ => False
def iStr (a : WE) : WI := fun ex ρ k => a ex ρ fun d ρ' => match d with
  | .str s => s.length ≤ line ∧ k (s.map fun c => .str [c]) ρ'
  | _ => False
def rng (lo : Int) : Nat → List D
  | 0 => []
  | n + 1 => .int lo :: rng (lo + 1) n
def rngB (i : Int) : Prop := -(2 ^ 62) ≤ i ∧ i < 2 ^ 62
def iRng1 (a : WE) : WI := fun ex ρ k => a ex ρ fun d ρ' => match d with
  | .int j => rngB j ∧ k (rng 0 j.toNat) ρ'
  | _ => False
def iRng2 (a b : WE) : WI := fun ex ρ k => a ex ρ fun x ρ1 => b ex ρ1 fun y ρ2 => match x, y with
  | .int i, .int j => (rngB i ∧ rngB j) ∧ k (rng i (j - i).toNat) ρ2
  | _, _ => False
def rngD (lo : Int) : Nat → List D
  | 0 => []
  | n + 1 => .int lo :: rngD (lo - 1) n
/-- range(i, j, -1) -/
def iRngD (a b : WE) : WI := fun ex ρ k => a ex ρ fun x ρ1 => b ex ρ1 fun y ρ2 => match x, y with
  | .int i, .int j => (rngB i ∧ rngB j) ∧ k (rngD i (i - j).toNat) ρ2
  | _, _ => False
def enumL (k : Int) : List D → List D
  | [] => []
  | d :: ds => .tup [.int k, d] :: enumL (k + 1) ds
def zipL : List D → List D → List D
  | a :: as, b :: bs => .tup [a, b] :: zipL as bs
  | _, _ => []
def items : D → Option (List D)
  | .lst ds => some ds
  | .tup ds => some ds
  | .str s => some (s.map fun c => .str [c])
  | _ => none
/-- for i, x in enumerate(e) -/
def iEnum (a : WE) : WI := fun ex ρ k => a ex ρ fun d ρ' => match items d with
  | some ds => k (enumL 0 ds) ρ'
  | none => False
/-- for x, y in zip(e, e') -/
def iZip (a b : WE) : WI := fun ex ρ k => a ex ρ fun d ρ1 => b ex ρ1 fun d' ρ2 => match items d with
  | some ds => (match items d' with
    | some ds' => k (zipL ds ds') ρ2
    | none => False)
  | none => False
/-- the loop, item by item -/
def loop (g : WG) (b : WS) (ex : XC) : List D → Ends → Env → Prop
  | [], E, ρ => E.nx ρ
  | d :: ds, E, ρ => g d ρ fun ρ1 => b ex { E with nx := fun ρ2 => loop g b ex ds E ρ2, ct := fun ρ2 => loop g b ex ds E ρ2, bk := E.nx } ρ1
def sFor (i : WI) (g : WG) (b : WS) : WS := fun ex E ρ => i ex ρ fun ds ρ' => loop g b ex ds E ρ'
def sWhile (t : WT) (b : WS) : WS := fun ex E ρ => ∃ I : Nat → Env → Prop, (∃ m, I m ρ) ∧ ∀ m ρ, I m ρ →
  t ex ρ fun c ρ' => if c = true then b ex { E with nx := fun ρ2 => ∃ m', m' < m ∧ I m' ρ2, ct := fun ρ2 => ∃ m', m' < m ∧ I m' ρ2, bk := E.nx } ρ' else E.nx ρ'
/-! ### list comprehensions, new objects -/
def wipe (ρ : Env) : List Nat → Env
  | [] => ρ
  | v :: vs => (wipe ρ vs).set v .un
/-- the own slots as they stood -/
def unwipe (ρ0 : Env) (ρ : Env) : List Nat → Env
  | [] => ρ
  | v :: vs => (unwipe ρ0 ρ vs).set v (ρ0.getD v .un)
def noX : XC := fun _ _ => False
def lcLoop (own : List Nat) (g : WG) (t : WT) (e : WE) : List D → List D → Env → (List D → Env → Prop) → Prop
  | [], acc, ρ, Q => Q acc ρ
  | d :: ds, acc, ρ, Q => g d ρ fun ρ1 => t noX ρ1 fun b ρ2 => if b = true then e noX ρ2 fun y ρ3 => acc.length < line ∧ lcLoop own g t e ds (acc ++ [y]) (wipe ρ3 own) Q
    else lcLoop own g t e ds acc (wipe ρ2 own) Q
def tYes : WT := fun _ ρ Q => Q true ρ
def nLc (own : List Nat) (i : WI) (g : WG) (t : WT) (e : WE) : WE := fun ex ρ Q => i ex ρ fun ds ρ' => (own.all fun i => free ρ' i) = true ∧ lcLoop own g t e ds [] (wipe ρ' own) fun acc ρ2 => Q (.lst acc) (unwipe ρ' ρ2 own)
/-- the slots at a def's entry -/
def entry (n : Nat) (ss : List Sl) : Env := ss ++ List.replicate (n - ss.length) .un
/-- a def's text does what it promises -/
def Does (φ : FSpec) (n : Nat) (w : WS) : Prop := ∀ ss q e, φ ss q e → w (fun en ρ => e en (ρ.take ss.length)) { nx := fun ρ => q (.sh .non) (ρ.take ss.length), rt := fun r ρ => q r (ρ.take ss.length) } (entry n ss)
end PW
end

section
/-! PW2: more of the plain world: dicts that are made and changed, sorted(set(..)), text methods, two generators. -/
set_option linter.all false
namespace PW
mutual
/-- a key: none, ints, texts, and tuples of such to the depth n -/
def keyB : D → Nat → Bool
  | .non, _ => true
  | .int _, _ => true
  | .str _, _ => true
  | .tup a, n => match n with
    | 0 => false
    | n + 1 => keyBL a n
  | _, _ => false
def keyBL : List D → Nat → Bool
  | [], _ => true
  | a :: as, n => keyB a n && keyBL as n
end
def isTk : D → Bool
  | .tup a => keyB (.tup a) 8
  | _ => false
def isSk : D → Bool
  | .int _ => true
  | .str _ => true
  | _ => false
def dGet (kvs : List (D × D)) (k : D) : Option D := (kvs.find? fun p => eqv p.1 k).map (·.2)
def dPut (kvs : List (D × D)) (k v : D) : List (D × D) := if (kvs.any fun p => eqv p.1 k) = true then kvs.map (fun p => if eqv p.1 k = true then (p.1, v) else p) else kvs ++ [(k, v)]
/-- the dict's pairs, if the key is of its kind -/
def dKv (x y : D) (Q : List (D × D) → Prop) : Prop := match x with
  | .dit kvs => isTk y = true ∧ Q kvs
  | .dic kvs => isSk y = true ∧ Q kvs
  | _ => False
/-- d[k] -/
def fDget : F2 := fun x y Q => dKv x y fun kvs => match dGet kvs y with
  | some d => Q d
  | none => False
/-- k in d -/
def fDin : F2 := fun y x Q => dKv x y fun kvs => Q (.bl (dGet kvs y).isSome)
def fDnin : F2 := fun y x Q => dKv x y fun kvs => Q (.bl (!(dGet kvs y).isSome))
/-- len(d) -/
def fDlen : F1 := fun x Q => match x with
  | .dit kvs => Q (.int kvs.length)
  | .dic kvs => Q (.int kvs.length)
  | _ => False
/-- {}, to be a dict of tuples; of ints and texts -/
def nDit : WE := fun _ ρ Q => Q (.dit []) ρ
def nDic : WE := fun _ ρ Q => Q (.dic []) ρ
def putKv (x y : D) (v : D) (k : D → Prop) : Prop := match x with
  | .dit kvs => (isTk y = true ∧ kvs.length < line) ∧ k (.dit (dPut kvs y v))
  | .dic kvs => (isSk y = true ∧ kvs.length < line) ∧ k (.dic (dPut kvs y v))
  | _ => False
/-- d[k] = e -/
def sDput (i : Nat) (j a : WE) : WS := fun ex E ρ => a ex ρ fun y ρ1 => peek ρ1 i (fun _ => True) ∧ j ex ρ1 fun jx ρ2 => putO ρ2 i (fun d k => putKv d jx y k) E.nx
/-! ### comprehensions of two generators -/
abbrev PEl := Env → List D → (List D → Env → Prop) → Prop
def genLoop (own : List Nat) (g : WG) (t : WT) (pel : PEl) : List D → List D → Env → (List D → Env → Prop) → Prop
  | [], acc, ρ, Q => Q acc ρ
  | d :: ds, acc, ρ, Q => g d ρ fun ρ1 => t noX ρ1 fun b ρ2 => if b = true then pel ρ2 acc fun acc' ρ3 => genLoop own g t pel ds acc' (wipe ρ3 own) Q else genLoop own g t pel ds acc (wipe ρ2 own) Q
def elt1 (e : WE) : PEl := fun ρ acc K => e noX ρ fun y ρ3 => acc.length < line ∧ K (acc ++ [y]) ρ3
def elt2 (own1 : List Nat) (i1 : WI) (g1 : WG) (t1 : WT) (e : WE) : PEl := fun ρ acc K => i1 noX ρ fun ds ρ' => (own1.all fun i => free ρ' i) = true ∧ genLoop own1 g1 t1 (elt1 e) ds acc (wipe ρ' own1) fun acc' ρ2 => K acc' (unwipe ρ' ρ2 own1)
def nLc2 (own own1 : List Nat) (i : WI) (g : WG) (t : WT) (i1 : WI) (g1 : WG) (t1 : WT) (e : WE) : WE := fun ex ρ Q => i ex ρ fun ds ρ' => (own.all fun i => free ρ' i) = true ∧ genLoop own g t (elt2 own1 i1 g1 t1 e) ds [] (wipe ρ' own) fun acc ρ2 => Q (.lst acc) (unwipe ρ' ρ2 own)
/-! ### sorted(set(xs)), xs a list of ints -/
def fSortSet : F1 := fun x Q => match x with
  | .lst ds => ∃ ns, intsOf ds = some ns ∧ ns.length < 60 ∧ ∀ ms : List Int, ms.Pairwise (· < ·) → (∀ k, k ∈ ms ↔ k ∈ ns) → Q (.lst (ms.map .int))
  | _ => False
/-- a method of a text, of one argument -/
def isStr : D → Prop
  | .str _ => True
  | _ => False
def isLst1 : D → Prop
  | .lst _ => True
  | _ => False
def wMt (ty : D → Prop) (f : F2) (a : WR) (b : WE) : WE := fun ex ρ Q => a ex ρ fun p ρ1 => p ρ1 ty ∧ b ex ρ1 fun y ρ2 => p ρ2 fun x => f x y fun r => Q r ρ2
/-- s.index(c), c one letter that is there -/
def fSIndex : F2 := fun x y Q => match x, y with
  | .str s, .str [c] => c ∈ s ∧ Q (.int (s.idxOf c))
  | _, _ => False
/-- s.find(c), c one letter -/
def fSFind : F2 := fun x y Q => match x, y with
  | .str s, .str [c] => Q (.int (if c ∈ s then (s.idxOf c : Int) else -1))
  | _, _ => False
end PW
end

section
set_option Elab.async false
set_option linter.all false
set_option maxRecDepth 100000
set_option maxHeartbeats 4000000
/-! PS1: what stands in the heap for the plain world's data; the invariant between slots; what an expression, a statement is worth. -/
namespace PS
open PySem PySem.Spec L2
open PyProof.Rows hiding St

/-- what stands fixed: the written part, where the classes stand -/
structure Stat where
  P : Program
  w : World
  K : PySem.W.Frag
  cls : String → Option Addr

def cpl (x : Str) : List Nat := x.cps.toList
theorem cpl_inj {x y : Str} (h : cpl x = cpl y) : x = y := by
  obtain ⟨⟨x⟩⟩ := x; obtain ⟨⟨y⟩⟩ := y
  unfold cpl at h; simp at h; subst h; rfl
def mkS (s : List Nat) : Str := ⟨s.toArray⟩
theorem cpl_mk (s : List Nat) : cpl (mkS s) = s := by simp [cpl, mkS]
theorem mk_cpl (x : Str) : mkS (cpl x) = x := cpl_inj (cpl_mk _)
theorem cpl_len (x : Str) : x.length = (cpl x).length := by simp [cpl, Str.length]
theorem line_eq : PW.line = sizeLine := by rw [sizeLine_eq]; rfl

mutual
/-- a key of a dict -/
def keyN : PW.D → Option NestedKey
  | .non => some .none
  | .int i => some (.num i)
  | .str s => some (.text (mkS s))
  | .tup ds => (keysN ds).map .tup
  | _ => none
def keysN : List PW.D → Option (List NestedKey)
  | [] => some []
  | d :: ds => match keyN d, keysN ds with
    | some k, some ks => some (k :: ks)
    | _, _ => none
end
/-- a dict whose keys are tuples -/
def dN (S : Stat) (a : Addr) (xs : List (NestedKey × Addr × V)) : HO := .ext fun h => xs.length ≤ sizeLine ∧ (a == sysModules) = false ∧ ∃ ys : List (NestedKey × Addr × Value), Paired (fun x y => x.1 = y.1 ∧ x.2.1 = y.2.1 ∧ RelV x.2.2 y.2.2) xs ys ∧
  ∃ o es ep, h.get? a = some o ∧ o.ExactDict ∧ o.data = .dict es ep ∧ es.toList = ys.map (entryOfKey (nestedKind S.P S.w)) ∧ (ys.map (·.1)).Nodup

mutual
/-- the value v is the data d in the shared heap G -/
inductive Rep (S : Stat) (G : Hp) : V → PW.D → Prop
  | non : Rep S G .non .non
  | bl (b : Bool) : Rep S G (.bl b) (.bl b)
  | int (i : Int) : Rep S G (.int i) (.int i)
  | str (x : Str) : Rep S G (.str x) (.str (cpl x))
  | tup {a : Addr} {xs : List V} {ds : List PW.D} : SqT S.K G a xs → RepL S G xs ds → Rep S G (.ref a) (.tup ds)
  | lst {a : Addr} {xs : List V} {ds : List PW.D} : G a = some (.lst xs) → RepL S G xs ds → Rep S G (.ref a) (.lst ds)
  | scr {a : Addr} {ns : List Int} : SqL S.K G a (ns.map V.int) → Rep S G (.ref a) (.scr ns)
  | dK {a : Addr} {xs : List (Key × V)} {kvs : List (PW.D × PW.D)} : G a = some (.dK xs) → RepK S G xs kvs → Rep S G (.ref a) (.dic kvs)
  | dN {a : Addr} {xs : List (NestedKey × Addr × V)} {kvs : List (PW.D × PW.D)} : G a = some (dN S a xs) → RepN S G xs kvs → Rep S G (.ref a) (.dit kvs)
  | obj {a C dx : Addr} {fs : List (Str × V)} {c : String} {fds : List (String × PW.D)} : G a = some (.ins C dx fs) → S.cls c = some C → RepF S G fs fds → Rep S G (.ref a) (.obj c fds)
inductive RepL (S : Stat) (G : Hp) : List V → List PW.D → Prop
  | nil : RepL S G [] []
  | cons {v : V} {d : PW.D} {vs : List V} {ds : List PW.D} : Rep S G v d → RepL S G vs ds → RepL S G (v :: vs) (d :: ds)
inductive RepK (S : Stat) (G : Hp) : List (Key × V) → List (PW.D × PW.D) → Prop
  | nil : RepK S G [] []
  | int {i : Int} {v : V} {d : PW.D} {r : List (Key × V)} {t : List (PW.D × PW.D)} : Rep S G v d → RepK S G r t → RepK S G ((.inl i, v) :: r) ((.int i, d) :: t)
  | str {x : Str} {v : V} {d : PW.D} {r : List (Key × V)} {t : List (PW.D × PW.D)} : Rep S G v d → RepK S G r t → RepK S G ((.inr x, v) :: r) ((.str (cpl x), d) :: t)
inductive RepN (S : Stat) (G : Hp) : List (NestedKey × Addr × V) → List (PW.D × PW.D) → Prop
  | nil : RepN S G [] []
  | cons {k : NestedKey} {a : Addr} {v : V} {kd d : PW.D} {r : List (NestedKey × Addr × V)} {t : List (PW.D × PW.D)} : keyN kd = some k → k.depth ≤ 8 → Rep S G (.ref a) kd → Rep S G v d → RepN S G r t → RepN S G ((k, a, v) :: r) ((kd, d) :: t)
inductive RepF (S : Stat) (G : Hp) : List (Str × V) → List (String × PW.D) → Prop
  | nil : RepF S G [] []
  | cons {f : String} {v : V} {d : PW.D} {r : List (Str × V)} {t : List (String × PW.D)} : Rep S G v d → RepF S G r t → RepF S G ((Str.ofString f, v) :: r) ((f, d) :: t)
end

/-- the object o, that may be changed, holds the data d -/
inductive Own (S : Stat) (G : Hp) (a : Addr) : HO → PW.D → Prop
  | lst {xs : List V} {ds : List PW.D} : RepL S G xs ds → Own S G a (.lst xs) (.lst ds)
  | dK {xs : List (Key × V)} {kvs : List (PW.D × PW.D)} : RepK S G xs kvs → Own S G a (.dK xs) (.dic kvs)
  | dN {xs : List (NestedKey × Addr × V)} {kvs : List (PW.D × PW.D)} : RepN S G xs kvs → Own S G a (dN S a xs) (.dit kvs)
  | obj {C dx : Addr} {fs : List (Str × V)} {c : String} {fds : List (String × PW.D)} : S.cls c = some C → RepF S G fs fds → Own S G a (.ins C dx fs) (.obj c fds)

theorem Same.seqT {K : PySem.W.Frag} {H H' : Hp} {a : Addr} {xs : List V} (e : Same H H') (h : SqT K H a xs) : SqT K H' a xs := by
  rcases h with (h | ⟨o, h⟩) | h
  · exact .inl (.inl (e _ _ h))
  · exact .inl (.inr ⟨o, e _ _ h⟩)
  · exact .inr h
section
variable {S : Stat} {G G' : Hp}
mutual
theorem Rep.mono (e : Same G G') : ∀ {v : V} {d : PW.D}, Rep S G v d → Rep S G' v d
  | _, _, .non => .non
  | _, _, .bl b => .bl b
  | _, _, .int i => .int i
  | _, _, .str x => .str x
  | _, _, .tup h r => .tup (Same.seqT e h) (RepL.mono e r)
  | _, _, .lst h r => .lst (e _ _ h) (RepL.mono e r)
  | _, _, .scr h => .scr (e.seq h)
  | _, _, .dK h r => .dK (e _ _ h) (RepK.mono e r)
  | _, _, .dN h r => .dN (e _ _ h) (RepN.mono e r)
  | _, _, .obj h c r => .obj (e _ _ h) c (RepF.mono e r)
theorem RepL.mono (e : Same G G') : ∀ {vs : List V} {ds : List PW.D}, RepL S G vs ds → RepL S G' vs ds
  | _, _, .nil => .nil
  | _, _, .cons a b => .cons (Rep.mono e a) (RepL.mono e b)
theorem RepK.mono (e : Same G G') : ∀ {xs : List (Key × V)} {ds : List (PW.D × PW.D)}, RepK S G xs ds → RepK S G' xs ds
  | _, _, .nil => .nil
  | _, _, .int a b => .int (Rep.mono e a) (RepK.mono e b)
  | _, _, .str a b => .str (Rep.mono e a) (RepK.mono e b)
theorem RepN.mono (e : Same G G') : ∀ {xs : List (NestedKey × Addr × V)} {ds : List (PW.D × PW.D)}, RepN S G xs ds → RepN S G' xs ds
  | _, _, .nil => .nil
  | _, _, .cons k l a b c => .cons k l (Rep.mono e a) (Rep.mono e b) (RepN.mono e c)
theorem RepF.mono (e : Same G G') : ∀ {xs : List (Str × V)} {ds : List (String × PW.D)}, RepF S G xs ds → RepF S G' xs ds
  | _, _, .nil => .nil
  | _, _, .cons a b => .cons (Rep.mono e a) (RepF.mono e b)
end
theorem Own.mono (e : Same G G') {a : Addr} {o : HO} {d : PW.D} (h : Own S G a o d) : Own S G' a o d := by
  cases h with
  | lst r => exact .lst (r.mono e)
  | dK r => exact .dK (r.mono e)
  | dN r => exact .dN (r.mono e)
  | obj c r => exact .obj c (r.mono e)
/-- frozen: what was owned is shared -/
theorem Own.rep {a : Addr} {o : HO} {d : PW.D} (h : Own S G a o d) (g : G a = some o) : Rep S G (.ref a) d := by
  cases h with
  | lst r => exact .lst g r
  | dK r => exact .dK g r
  | dN r => exact .dN g r
  | obj c r => exact .obj g c r
theorem RepL.len {vs : List V} {ds : List PW.D} (h : RepL S G vs ds) : vs.length = ds.length := by
  induction ds generalizing vs with
  | nil => cases h; rfl
  | cons d ds ih => cases h with
    | cons a b => simp [ih b]
theorem RepL.get {vs : List V} {ds : List PW.D} {i : Nat} {d : PW.D} (h : RepL S G vs ds) (e : ds[i]? = some d) : ∃ v, vs[i]? = some v ∧ Rep S G v d := by
  induction ds generalizing vs i with
  | nil => simp at e
  | cons x ds ih => cases h with
    | cons a b => cases i with
      | zero => simp at e; subst e; exact ⟨_, rfl, a⟩
      | succ i => simp at e; obtain ⟨v, h1, h2⟩ := ih b e; exact ⟨v, by simpa using h1, h2⟩
theorem RepL.getV {vs : List V} {ds : List PW.D} {i : Nat} {v : V} (h : RepL S G vs ds) (e : vs[i]? = some v) : ∃ d, ds[i]? = some d ∧ Rep S G v d := by
  have hl := h.len
  have hi : i < ds.length := by rw [← hl]; exact (List.getElem?_eq_some_iff.mp e).1
  obtain ⟨v', h1, h2⟩ := h.get (List.getElem?_eq_getElem hi)
  rw [e] at h1; cases h1
  exact ⟨_, List.getElem?_eq_getElem hi, h2⟩
theorem RepL.append {vs ws : List V} {ds es : List PW.D} (h : RepL S G vs ds) (k : RepL S G ws es) : RepL S G (vs ++ ws) (ds ++ es) := by
  induction ds generalizing vs with
  | nil => cases h; exact k
  | cons x ds ih => cases h with
    | cons a b => exact .cons a (ih b)
theorem RepL.set {vs : List V} {ds : List PW.D} {v : V} {d : PW.D} (j : Nat) (h : RepL S G vs ds) (k : Rep S G v d) : RepL S G (vs.set j v) (ds.set j d) := by
  induction ds generalizing vs j with
  | nil => cases h; exact .nil
  | cons x ds ih => cases h with
    | cons a b => cases j with
      | zero => exact .cons k b
      | succ j => exact .cons a (ih j b)
theorem RepL.take {vs : List V} {ds : List PW.D} (n : Nat) (h : RepL S G vs ds) : RepL S G (vs.take n) (ds.take n) := by
  induction ds generalizing vs n with
  | nil => cases h; simp; exact .nil
  | cons x ds ih => cases h with
    | cons a b => cases n with
      | zero => exact .nil
      | succ n => exact .cons a (ih n b)
theorem RepL.drop {vs : List V} {ds : List PW.D} (n : Nat) (h : RepL S G vs ds) : RepL S G (vs.drop n) (ds.drop n) := by
  induction ds generalizing vs n with
  | nil => cases h; simp; exact .nil
  | cons x ds ih => cases h with
    | cons a b => cases n with
      | zero => exact .cons a b
      | succ n => exact ih n b
/-- the representation of scalars -/
theorem Rep.int_of {v : V} {i : Int} (h : Rep S G v (.int i)) : v = .int i := by cases h; rfl
theorem Rep.bl_of {v : V} {b : Bool} (h : Rep S G v (.bl b)) : v = .bl b := by cases h; rfl
theorem Rep.str_of {v : V} {s : List Nat} (h : Rep S G v (.str s)) : ∃ x, v = .str x ∧ cpl x = s := by cases h; exact ⟨_, rfl, rfl⟩
theorem Rep.non_of {v : V} (h : Rep S G v .non) : v = .non := by cases h; rfl
theorem Rep.tup_of {v : V} {ds : List PW.D} (h : Rep S G v (.tup ds)) : ∃ a xs, v = .ref a ∧ SqT S.K G a xs ∧ RepL S G xs ds := by cases h with | tup a b => exact ⟨_, _, rfl, a, b⟩
theorem Rep.lst_of {v : V} {ds : List PW.D} (h : Rep S G v (.lst ds)) : ∃ a xs, v = .ref a ∧ G a = some (.lst xs) ∧ RepL S G xs ds := by cases h with | lst a b => exact ⟨_, _, rfl, a, b⟩
end

/-! ### the invariant between the slots -/
structure Z where
  G0 : Hp
  H0 : Hp
  bo : Nat → Addr → Prop
  L : Addr → Prop
  rd : Addr → Prop
def Z.B (z : Z) (a : Addr) : Prop := ∃ i, z.bo i a
/-- v is to be looked at as d now -/
def Look (S : Stat) (G H : Hp) (v : V) (d : PW.D) : Prop := Rep S G v d ∨ ∃ a o, v = .ref a ∧ H a = some o ∧ Own S G a o d
def SlotOk (S : Stat) (z : Z) (G H : Hp) (i : Nat) : PW.Sl → Option (Option V) → Prop
  | .un, _ => True
  | .sh d, s => ∃ v, s = some (some v) ∧ Rep S G v d
  | .ow d, s => ∃ a o, s = some (some (.ref a)) ∧ H a = some o ∧ Own S G a o d ∧ G a = none ∧ ¬ z.B a ∧ (z.L a ∨ z.H0 a = none)
  | .bo d, s => ∃ a o, s = some (some (.ref a)) ∧ H a = some o ∧ Own S G a o d ∧ G a = none ∧ z.bo i a
  | .rd _, _ => True
/-- slot i holds an object of its own -/
def owned (ρ : PW.Env) (i : Nat) : Prop := (∃ d, ρ[i]? = some (.ow d)) ∨ ∃ d, ρ[i]? = some (.bo d)
structure EnvOk (S : Stat) (z : Z) (G : Hp) (ρ : PW.Env) (σ : St) (H : Hp) : Prop where
  same : Same G H
  grow : Same z.G0 G
  old : ∀ a o, z.H0 a = some o → z.G0 a = none → ¬ z.L a → G a = none
  keep : ∀ a o, z.H0 a = some o → ¬ z.B a → ¬ z.L a → H a = some o
  len : ρ.length = σ.length
  slot : ∀ i sl, ρ[i]? = some sl → SlotOk S z G H i sl σ[i]?
  apart : ∀ i j a, i ≠ j → owned ρ i → owned ρ j → σ[i]? = some (some (.ref a)) → σ[j]? ≠ some (some (.ref a))
  held : ∀ i a, z.bo i a → σ[i]? = some (some (.ref a)) ∧ ∃ d, ρ[i]? = some (.bo d)
  rds : ∀ (i : Nat) (d : PW.D), ρ[i]? = some (PW.Sl.rd d) → ∃ v, σ[i]? = some (some v) ∧ (Rep S G v d ∨ ∃ a o, v = .ref a ∧ H a = some o ∧ Own S G a o d ∧ z.rd a)
  rdo : ∀ a, z.rd a → (∃ o, H a = some o) ∧ ∀ j, owned ρ j → σ[j]? ≠ some (some (V.ref a))

section
variable {S : Stat} {z : Z} {G G' : Hp} {ρ : PW.Env} {σ : St} {H H' : Hp}
/-- an object off the shared heap that no slot owns may come or change; the shared heap may grow by what stands -/
theorem EnvOk.step (E : EnvOk S z G ρ σ H) (sg : Same G G') (s : Same G' H') (ol : ∀ a o, z.H0 a = some o → z.G0 a = none → ¬ z.L a → G' a = none)
    (kp : ∀ a o, H a = some o → H' a = some o) (nw : ∀ i a, owned ρ i → σ[i]? = some (some (.ref a)) → G' a = none) : EnvOk S z G' ρ σ H' where
  same := s
  grow := E.grow.trans sg
  old := ol
  keep := fun a o e b l => kp a o (E.keep a o e b l)
  len := E.len
  slot := fun i sl e => by
    have h := E.slot i sl e
    cases sl with
    | un => trivial
    | sh d => obtain ⟨v, e1, r⟩ := h; exact ⟨v, e1, r.mono sg⟩
    | ow d => obtain ⟨a, o, e1, e2, r, g, b, l⟩ := h; exact ⟨a, o, e1, kp _ _ e2, r.mono sg, nw i a (.inl ⟨d, e⟩) e1, b, l⟩
    | bo d => obtain ⟨a, o, e1, e2, r, g, b⟩ := h; exact ⟨a, o, e1, kp _ _ e2, r.mono sg, nw i a (.inr ⟨d, e⟩) e1, b⟩
    | rd d => trivial
  apart := E.apart
  held := E.held
  rds := fun i d e => by
    obtain ⟨v, e1, r | ⟨a, o, ev, h1, h2, h3⟩⟩ := E.rds i d e
    · exact ⟨v, e1, .inl (r.mono sg)⟩
    · exact ⟨v, e1, .inr ⟨a, o, ev, kp _ _ h1, h2.mono sg, h3⟩⟩
  rdo := fun a h => by
    obtain ⟨⟨o, e⟩, q⟩ := E.rdo a h
    exact ⟨⟨o, kp _ _ e⟩, q⟩
/-- what a slot owns is off the shared heap -/
theorem EnvOk.off (E : EnvOk S z G ρ σ H) {i : Nat} {a : Addr} (o : owned ρ i) (e : σ[i]? = some (some (.ref a))) : G a = none := by
  rcases o with ⟨d, h⟩ | ⟨d, h⟩
  · obtain ⟨b, o, e1, _, _, g, _⟩ := E.slot i _ h
    rw [e] at e1; cases e1; exact g
  · obtain ⟨b, o, e1, _, _, g, _⟩ := E.slot i _ h
    rw [e] at e1; cases e1; exact g
theorem EnvOk.there (E : EnvOk S z G ρ σ H) {i : Nat} {a : Addr} (o : owned ρ i) (e : σ[i]? = some (some (.ref a))) : ∃ u, H a = some u := by
  rcases o with ⟨d, h⟩ | ⟨d, h⟩
  · obtain ⟨b, o, e1, e2, _, g, _⟩ := E.slot i _ h
    rw [e] at e1; cases e1; exact ⟨_, e2⟩
  · obtain ⟨b, o, e1, e2, _, g, _⟩ := E.slot i _ h
    rw [e] at e1; cases e1; exact ⟨_, e2⟩
/-- a new object that is shared at once -/
theorem EnvOk.laid (E : EnvOk S z G ρ σ H) {p : Addr} (np : H p = none) (o : HO) : EnvOk S z (upd G p o) ρ σ (upd H p o) ∧ Same G (upd G p o) := by
  have gp : G p = none := E.same.free np
  have sg : Same G (upd G p o) := fun b u e => by
    rw [upd_ne (ne_of_none e gp)]; exact e
  have h0 : z.H0 p = none ∨ z.L p ∨ z.B p := by
    cases q : z.H0 p with
    | none => exact .inl rfl
    | some u =>
      by_cases hl : z.L p
      · exact .inr (.inl hl)
      · by_cases hb : z.B p
        · exact .inr (.inr hb)
        · have := E.keep p u q hb hl
          rw [np] at this; cases this
  refine ⟨E.step sg (fun b u e => ?_) (fun a u e g l => ?_) (fun a u e => ?_) (fun i a ow e => ?_), sg⟩
  · by_cases hb : b = p
    · subst hb; rw [upd_same] at e ⊢; exact e
    · rw [upd_ne hb] at e ⊢; exact E.same _ _ e
  · have ap : a ≠ p := by
      rintro rfl
      rcases h0 with h | h | ⟨i, hi⟩
      · rw [h] at e; cases e
      · exact l h
      · obtain ⟨h1, d, h2⟩ := E.held i _ hi
        obtain ⟨u', hu⟩ := E.there (.inr ⟨d, h2⟩) h1
        rw [np] at hu; cases hu
    rw [upd_ne ap]; exact E.old a u e g l
  · rw [upd_ne (ne_of_none e np)]; exact e
  · obtain ⟨u, hu⟩ := E.there ow e
    rw [upd_ne (ne_of_none hu np)]; exact E.off ow e
/-- a new object that nothing owns yet -/
theorem EnvOk.laidH (E : EnvOk S z G ρ σ H) {p : Addr} (np : H p = none) (o : HO) : EnvOk S z G ρ σ (upd H p o) :=
  E.step (Same.refl G) (fun b u e => by rw [upd_ne (ne_of_none (E.same _ _ e) np)]; exact E.same _ _ e) E.old (fun a u e => by rw [upd_ne (ne_of_none e np)]; exact e) (fun i a ow e => E.off ow e)
/-- where a new object comes, the entry's heap holds nothing, or it is licensed -/
theorem EnvOk.new0 (E : EnvOk S z G ρ σ H) {p : Addr} (np : H p = none) : ¬ z.B p ∧ (z.L p ∨ z.H0 p = none) := by
  have nb : ¬ z.B p := by
    rintro ⟨i, hi⟩
    obtain ⟨h1, d, h2⟩ := E.held i _ hi
    obtain ⟨u', hu⟩ := E.there (.inr ⟨d, h2⟩) h1
    rw [np] at hu; cases hu
  refine ⟨nb, ?_⟩
  cases q : z.H0 p with
  | none => exact .inr rfl
  | some u =>
    by_cases hl : z.L p
    · exact .inl hl
    · have := E.keep p u q nb hl
      rw [np] at this; cases this
/-- an object stands there, off the shared heap and off the slots, made since the entry -/
structure New (S : Stat) (z : Z) (G : Hp) (ρ : PW.Env) (σ : St) (H : Hp) (a : Addr) (d : PW.D) : Prop where
  at_ : ∃ o, H a = some o ∧ Own S G a o d
  off : G a = none
  nb : ¬ z.B a
  old : z.L a ∨ z.H0 a = none
  free : ∀ i, owned ρ i → σ[i]? ≠ some (some (.ref a))
  rdf : ¬ z.rd a
/-- what is new is given to the shared heap -/
theorem New.freeze {a : Addr} {d : PW.D} (N : New S z G ρ σ H a d) (E : EnvOk S z G ρ σ H) : ∃ G', EnvOk S z G' ρ σ H ∧ Same G G' ∧ Rep S G' (.ref a) d := by
  obtain ⟨o, ho, hd⟩ := N.at_
  have sg : Same G (upd G a o) := fun b u e => by rw [upd_ne (ne_of_none e N.off)]; exact e
  refine ⟨upd G a o, E.step sg (fun b u e => ?_) (fun b u e g l => ?_) (fun _ _ e => e) (fun i b ow e => ?_), sg, (hd.mono sg).rep upd_same⟩
  · by_cases hb : b = a
    · subst hb; rw [upd_same] at e; rw [ho]; exact e
    · rw [upd_ne hb] at e; exact E.same _ _ e
  · have hb : b ≠ a := by
      rintro rfl
      rcases N.old with h | h
      · exact l h
      · rw [h] at e; cases e
    rw [upd_ne hb]; exact E.old b u e g l
  · have hb : b ≠ a := by
      rintro rfl
      exact N.free i ow e
    rw [upd_ne hb]; exact E.off ow e
/-- a new object is laid -/
theorem EnvOk.newN (E : EnvOk S z G ρ σ H) {p : Addr} (np : H p = none) {o : HO} {d : PW.D} (r : Own S G p o d) : EnvOk S z G ρ σ (upd H p o) ∧ New S z G ρ σ (upd H p o) p d := by
  obtain ⟨nb, ol⟩ := E.new0 np
  refine ⟨E.laidH np o, ⟨⟨o, upd_same, r⟩, E.same.free np, nb, ol, fun i ow e => ?_, fun h => ?_⟩⟩
  · obtain ⟨u, hu⟩ := E.there ow e
    rw [np] at hu; cases hu
  · obtain ⟨⟨o', e⟩, _⟩ := E.rdo p h
    rw [np] at e; cases e
theorem get_set_self {α : Type} {l : List α} {i : Nat} {x y : α} (h : l[i]? = some x) : (l.set i y)[i]? = some y := by
  have hi := (List.getElem?_eq_some_iff.mp h).1
  exact List.getElem?_set_self hi
/-- an owned slot's object is given to the shared heap -/
theorem EnvOk.freezeSlot (E : EnvOk S z G ρ σ H) {i : Nat} {d : PW.D} (h : ρ[i]? = some (.ow d)) : ∃ G' v, EnvOk S z G' (ρ.set i (.sh d)) σ H ∧ Same G G' ∧ σ[i]? = some (some v) ∧ Rep S G' v d := by
  obtain ⟨a, o, e1, e2, r, g, b, l⟩ := E.slot i _ h
  have hi := (List.getElem?_eq_some_iff.mp h).1
  have sg : Same G (upd G a o) := fun c u e => by rw [upd_ne (ne_of_none e g)]; exact e
  have rp : Rep S (upd G a o) (.ref a) d := (r.mono sg).rep upd_same
  have own_ne : ∀ {j : Nat}, owned (ρ.set i (.sh d)) j → j ≠ i ∧ owned ρ j := fun {j} oj => by
    have ne : j ≠ i := by
      rintro rfl
      rcases oj with ⟨d', q⟩ | ⟨d', q⟩ <;> (rw [get_set_self h] at q; cases q)
    refine ⟨ne, ?_⟩
    rcases oj with ⟨d', q⟩ | ⟨d', q⟩ <;> rw [List.getElem?_set_ne (Ne.symm ne)] at q
    · exact .inl ⟨d', q⟩
    · exact .inr ⟨d', q⟩
  refine ⟨upd G a o, .ref a, ⟨fun c u e => ?_, E.grow.trans sg, fun c u e g0 l0 => ?_, E.keep, by rw [List.length_set]; exact E.len, fun j sl e => ?_, fun j k c ne oj ok ej => ?_, fun j c q => ?_, fun j d' q => ?_, fun c hc => ⟨(E.rdo c hc).1, fun k ok => (E.rdo c hc).2 k (own_ne ok).2⟩⟩, sg, e1, rp⟩
  · by_cases hc : c = a
    · subst hc; rw [upd_same] at e; rw [e2]; exact e
    · rw [upd_ne hc] at e; exact E.same _ _ e
  · have hc : c ≠ a := by
      rintro rfl
      rcases l with h | h
      · exact l0 h
      · rw [h] at e; cases e
    rw [upd_ne hc]; exact E.old c u e g0 l0
  · by_cases hj : j = i
    · subst hj
      rw [get_set_self h] at e
      cases e
      exact ⟨_, e1, rp⟩
    · rw [List.getElem?_set_ne (Ne.symm hj)] at e
      have q := E.slot j sl e
      cases sl with
      | un => trivial
      | sh d' => obtain ⟨v, x1, x2⟩ := q; exact ⟨v, x1, x2.mono sg⟩
      | ow d' =>
        obtain ⟨c, o', x1, x2, x3, x4, x5, x6⟩ := q
        have hc : c ≠ a := by
          rintro rfl
          exact E.apart j i c hj (.inl ⟨d', e⟩) (.inl ⟨d, h⟩) x1 e1
        exact ⟨c, o', x1, x2, x3.mono sg, by rw [upd_ne hc]; exact x4, x5, x6⟩
      | bo d' =>
        obtain ⟨c, o', x1, x2, x3, x4, x5⟩ := q
        have hc : c ≠ a := by
          rintro rfl
          exact E.apart j i c hj (.inr ⟨d', e⟩) (.inl ⟨d, h⟩) x1 e1
        exact ⟨c, o', x1, x2, x3.mono sg, by rw [upd_ne hc]; exact x4, x5⟩
      | rd d' => trivial
  · obtain ⟨_, oj'⟩ := own_ne oj
    obtain ⟨_, ok'⟩ := own_ne ok
    exact E.apart j k c ne oj' ok' ej
  · obtain ⟨q1, d', q2⟩ := E.held j c q
    refine ⟨q1, d', ?_⟩
    have hj : j ≠ i := by
      rintro rfl
      rw [h] at q2; cases q2
    rw [List.getElem?_set_ne (Ne.symm hj)]; exact q2
  · have hj : j ≠ i := by
      rintro rfl
      rw [get_set_self h] at q; cases q
    rw [List.getElem?_set_ne (Ne.symm hj)] at q
    obtain ⟨v, e3, h1 | ⟨c, o', ev, h1, h2, h3⟩⟩ := E.rds j d' q
    · exact ⟨v, e3, .inl (h1.mono sg)⟩
    · exact ⟨v, e3, .inr ⟨c, o', ev, h1, h2.mono sg, h3⟩⟩
/-- what a slot shows when it is looked at -/
theorem EnvOk.look (E : EnvOk S z G ρ σ H) {i : Nat} {q : PW.D → Prop} (h : PW.peek ρ i q) : ∃ v d, σ[i]? = some (some v) ∧ Look S G H v d ∧ q d := by
  unfold PW.peek at h
  cases e : ρ[i]? with
  | none => rw [e] at h; exact h.elim
  | some sl =>
    rw [e] at h
    have s := E.slot i sl e
    cases sl with
    | un => exact h.elim
    | sh d => obtain ⟨v, x1, x2⟩ := s; exact ⟨v, d, x1, .inl x2, h⟩
    | ow d => obtain ⟨a, o, x1, x2, x3, _⟩ := s; exact ⟨_, d, x1, .inr ⟨a, o, rfl, x2, x3⟩, h⟩
    | bo d => obtain ⟨a, o, x1, x2, x3, _⟩ := s; exact ⟨_, d, x1, .inr ⟨a, o, rfl, x2, x3⟩, h⟩
    | rd d =>
      obtain ⟨v, x1, x2 | ⟨a, o, rfl, x2, x3, x4⟩⟩ := E.rds i d e
      · exact ⟨v, d, x1, .inl x2, h⟩
      · exact ⟨_, d, x1, .inr ⟨a, o, rfl, x2, x3⟩, h⟩
/-- a shared value is stored to a slot -/
theorem EnvOk.setSh (E : EnvOk S z G ρ σ H) {i : Nat} {v : V} {d : PW.D} (f : PW.free ρ i = true) (r : Rep S G v d) : EnvOk S z G (ρ.set i (.sh d)) (σ.set i (some v)) H := by
  unfold PW.free at f
  cases e : ρ[i]? with
  | none => rw [e] at f; cases f
  | some sl =>
    have hi := (List.getElem?_eq_some_iff.mp e).1
    have hs : i < σ.length := by rw [← E.len]; exact hi
    have nbo : ∀ d, ρ[i]? ≠ some (.bo d) := fun d q => by rw [q] at f; cases f
    have own_ne : ∀ {j : Nat}, owned (ρ.set i (.sh d)) j → j ≠ i ∧ owned ρ j := fun {j} oj => by
      have ne : j ≠ i := by
        rintro rfl
        rcases oj with ⟨d', q⟩ | ⟨d', q⟩ <;> (rw [get_set_self e] at q; cases q)
      refine ⟨ne, ?_⟩
      rcases oj with ⟨d', q⟩ | ⟨d', q⟩ <;> rw [List.getElem?_set_ne (Ne.symm ne)] at q
      · exact .inl ⟨d', q⟩
      · exact .inr ⟨d', q⟩
    refine ⟨E.same, E.grow, E.old, E.keep, by rw [List.length_set, List.length_set]; exact E.len, fun j sl' q => ?_, fun j k c ne oj ok ej => ?_, fun j c q => ?_, fun j d' q => ?_, fun c hc => ⟨(E.rdo c hc).1, fun k ok => ?_⟩⟩
    · by_cases hj : j = i
      · subst hj
        rw [get_set_self e] at q
        cases q
        exact ⟨v, List.getElem?_set_self hs, r⟩
      · rw [List.getElem?_set_ne (Ne.symm hj)] at q ⊢
        exact E.slot j sl' q
    · obtain ⟨nj, oj'⟩ := own_ne oj
      obtain ⟨nk, ok'⟩ := own_ne ok
      rw [List.getElem?_set_ne (Ne.symm nj)] at ej
      rw [List.getElem?_set_ne (Ne.symm nk)]
      exact E.apart j k c ne oj' ok' ej
    · obtain ⟨q1, d', q2⟩ := E.held j c q
      have hj : j ≠ i := fun w => nbo d' (w ▸ q2)
      rw [List.getElem?_set_ne (Ne.symm hj), List.getElem?_set_ne (Ne.symm hj)]
      exact ⟨q1, d', q2⟩
    · have hj : j ≠ i := by
        rintro rfl
        rw [get_set_self e] at q; cases q
      rw [List.getElem?_set_ne (Ne.symm hj)] at q ⊢
      obtain ⟨v', e3, h1 | ⟨c, o', ev, h1, h2, h3⟩⟩ := E.rds j d' q
      · exact ⟨v', e3, .inl h1⟩
      · exact ⟨v', e3, .inr ⟨c, o', ev, h1, h2, h3⟩⟩
    · obtain ⟨nk, ok'⟩ := own_ne ok
      rw [List.getElem?_set_ne (Ne.symm nk)]
      exact (E.rdo c hc).2 k ok'
/-- a new object is stored to a slot -/
theorem EnvOk.setOw (E : EnvOk S z G ρ σ H) {i : Nat} {a : Addr} {d : PW.D} (f : PW.free ρ i = true) (N : New S z G ρ σ H a d) : EnvOk S z G (ρ.set i (.ow d)) (σ.set i (some (.ref a))) H := by
  unfold PW.free at f
  cases e : ρ[i]? with
  | none => rw [e] at f; cases f
  | some sl =>
    have hi := (List.getElem?_eq_some_iff.mp e).1
    have hs : i < σ.length := by rw [← E.len]; exact hi
    have nbo : ∀ d, ρ[i]? ≠ some (.bo d) := fun d q => by rw [q] at f; cases f
    have own_of : ∀ {j : Nat}, j ≠ i → owned (ρ.set i (.ow d)) j → owned ρ j := fun {j} ne oj => by
      rcases oj with ⟨d', q⟩ | ⟨d', q⟩ <;> rw [List.getElem?_set_ne (Ne.symm ne)] at q
      · exact .inl ⟨d', q⟩
      · exact .inr ⟨d', q⟩
    refine ⟨E.same, E.grow, E.old, E.keep, by rw [List.length_set, List.length_set]; exact E.len, fun j sl' q => ?_, fun j k c ne oj ok ej => ?_, fun j c q => ?_, fun j d' q => ?_, fun c hc => ⟨(E.rdo c hc).1, fun k ok => ?_⟩⟩
    · by_cases hj : j = i
      · subst hj
        rw [get_set_self e] at q
        cases q
        obtain ⟨o, h1, h2⟩ := N.at_
        exact ⟨a, o, List.getElem?_set_self hs, h1, h2, N.off, N.nb, N.old⟩
      · rw [List.getElem?_set_ne (Ne.symm hj)] at q ⊢
        exact E.slot j sl' q
    · by_cases hj : j = i
      · subst hj
        rw [List.getElem?_set_self hs] at ej
        cases ej
        have ok' := own_of (Ne.symm ne) ok
        rw [List.getElem?_set_ne ne]
        exact N.free k ok'
      · rw [List.getElem?_set_ne (Ne.symm hj)] at ej
        have oj' := own_of hj oj
        by_cases hk : k = i
        · subst hk
          rw [List.getElem?_set_self hs]
          intro w
          cases w
          exact N.free j oj' ej
        · rw [List.getElem?_set_ne (Ne.symm hk)]
          exact E.apart j k c ne oj' (own_of hk ok) ej
    · obtain ⟨q1, d', q2⟩ := E.held j c q
      have hj : j ≠ i := fun w => nbo d' (w ▸ q2)
      rw [List.getElem?_set_ne (Ne.symm hj), List.getElem?_set_ne (Ne.symm hj)]
      exact ⟨q1, d', q2⟩
    · have hj : j ≠ i := by
        rintro rfl
        rw [get_set_self e] at q; cases q
      rw [List.getElem?_set_ne (Ne.symm hj)] at q ⊢
      obtain ⟨v', e3, h1 | ⟨c, o', ev, h1, h2, h3⟩⟩ := E.rds j d' q
      · exact ⟨v', e3, .inl h1⟩
      · exact ⟨v', e3, .inr ⟨c, o', ev, h1, h2, h3⟩⟩
    · by_cases hk : k = i
      · subst hk
        rw [List.getElem?_set_self hs]
        intro w
        cases w
        exact N.rdf hc
      · rw [List.getElem?_set_ne (Ne.symm hk)]
        exact (E.rdo c hc).2 k (own_of hk ok)
/-- an owned slot's object is changed in its place -/
theorem EnvOk.putOw (E : EnvOk S z G ρ σ H) {i : Nat} {a : Addr} {o : HO} {d' : PW.D} (ow : owned ρ i) (e1 : σ[i]? = some (some (.ref a))) (r : Own S G a o d') :
    (∀ d, ρ[i]? = some (.ow d) → EnvOk S z G (ρ.set i (.ow d')) σ (upd H a o)) ∧ (∀ d, ρ[i]? = some (.bo d) → EnvOk S z G (ρ.set i (.bo d')) σ (upd H a o)) := by
  have g := E.off ow e1
  have main : ∀ (sl sl' : PW.Sl), ρ[i]? = some sl' → (∀ x, sl ≠ .sh x) → owned (ρ.set i sl) i → SlotOk S z G (upd H a o) i sl σ[i]? → (∀ c, z.bo i c → ∃ d, sl = .bo d) → (¬ z.B a → z.L a ∨ z.H0 a = none) → EnvOk S z G (ρ.set i sl) σ (upd H a o) := by
    intro sl sl' e0 _ oi si hb nw
    have hi := (List.getElem?_eq_some_iff.mp e0).1
    have own_of : ∀ {j : Nat}, j ≠ i → owned (ρ.set i sl) j → owned ρ j := fun {j} ne oj => by
      rcases oj with ⟨d', q⟩ | ⟨d', q⟩ <;> rw [List.getElem?_set_ne (Ne.symm ne)] at q
      · exact .inl ⟨d', q⟩
      · exact .inr ⟨d', q⟩
    have ne_own : ∀ {j : Nat} {c : Addr}, j ≠ i → owned ρ j → σ[j]? = some (some (.ref c)) → c ≠ a := fun {j c} ne oj ej w => by
      subst w
      exact E.apart j i c ne oj ow ej e1
    refine ⟨fun c u q => ?_, E.grow, E.old, fun c u q b l => ?_, by rw [List.length_set]; exact E.len, fun j sl2 q => ?_, fun j k c ne oj ok ej => ?_, fun j c q => ?_, fun j d2 q => ?_, fun c hc => ?_⟩
    · rw [upd_ne (ne_of_none q g)]; exact E.same _ _ q
    · have hc : c ≠ a := by
        rintro rfl
        rcases nw b with h | h
        · exact l h
        · rw [h] at q; cases q
      rw [upd_ne hc]; exact E.keep c u q b l
    · by_cases hj : j = i
      · subst hj
        rw [get_set_self e0] at q
        cases q
        exact si
      · rw [List.getElem?_set_ne (Ne.symm hj)] at q
        have s := E.slot j sl2 q
        cases sl2 with
        | un => trivial
        | sh d => exact s
        | ow d =>
          obtain ⟨c, o', x1, x2, x3, x4, x5, x6⟩ := s
          exact ⟨c, o', x1, by rw [upd_ne (ne_own hj (.inl ⟨d, q⟩) x1)]; exact x2, x3, x4, x5, x6⟩
        | bo d =>
          obtain ⟨c, o', x1, x2, x3, x4, x5⟩ := s
          exact ⟨c, o', x1, by rw [upd_ne (ne_own hj (.inr ⟨d, q⟩) x1)]; exact x2, x3, x4, x5⟩
        | rd d => trivial
    · by_cases hj : j = i
      · subst hj
        by_cases hk : k = j
        · exact absurd hk (Ne.symm ne)
        · exact E.apart j k c ne ow (own_of hk ok) ej
      · by_cases hk : k = i
        · subst hk
          exact E.apart j k c ne (own_of hj oj) ow ej
        · exact E.apart j k c ne (own_of hj oj) (own_of hk ok) ej
    · obtain ⟨q1, d2, q2⟩ := E.held j c q
      by_cases hj : j = i
      · subst hj
        obtain ⟨d3, rfl⟩ := hb c q
        exact ⟨q1, d3, get_set_self e0⟩
      · rw [List.getElem?_set_ne (Ne.symm hj)]
        exact ⟨q1, d2, q2⟩
    · have hj : j ≠ i := by
        rintro rfl
        rw [get_set_self e0] at q
        cases q
        rcases oi with ⟨d', w⟩ | ⟨d', w⟩ <;> (rw [get_set_self e0] at w; cases w)
      rw [List.getElem?_set_ne (Ne.symm hj)] at q
      obtain ⟨v', e3, h1 | ⟨c, o', ev, h1, h2, h3⟩⟩ := E.rds j d2 q
      · exact ⟨v', e3, .inl h1⟩
      · have ca : c ≠ a := fun w => (E.rdo c h3).2 i ow (w ▸ e1)
        exact ⟨v', e3, .inr ⟨c, o', ev, by rw [upd_ne ca]; exact h1, h2, h3⟩⟩
    · obtain ⟨⟨u, hu⟩, h2⟩ := E.rdo c hc
      have ca : c ≠ a := fun w => h2 i ow (w ▸ e1)
      refine ⟨⟨u, by rw [upd_ne ca]; exact hu⟩, fun k ok => ?_⟩
      by_cases hk : k = i
      · subst hk; exact h2 k ow
      · exact h2 k (own_of hk ok)
  refine ⟨fun d e => ?_, fun d e => ?_⟩
  · obtain ⟨b, o', x1, x2, x3, x4, x5, x6⟩ := E.slot i _ e
    rw [e1] at x1; cases x1
    refine main (.ow d') (.ow d) e (fun _ q => nomatch q) (.inl ⟨d', get_set_self e⟩) ⟨a, o, e1, upd_same, r, g, x5, x6⟩ (fun c hc => ?_) (fun _ => x6)
    exact absurd ⟨i, by obtain ⟨q1, _⟩ := E.held i c hc; rw [e1] at q1; cases q1; exact hc⟩ x5
  · obtain ⟨b, o', x1, x2, x3, x4, x5⟩ := E.slot i _ e
    rw [e1] at x1; cases x1
    exact main (.bo d') (.bo d) e (fun _ q => nomatch q) (.inr ⟨d', get_set_self e⟩) ⟨a, o, e1, upd_same, r, g, x5⟩ (fun c hc => ⟨d', rfl⟩) (fun nb => absurd ⟨i, x5⟩ nb)
end

/-! ### what an expression, a statement is worth -/
def TOf (S : Stat) (z : Z) (ex : PW.XC) (w : PW.WE) : TE := fun σ H Q => ∃ G ρ q, EnvOk S z G ρ σ H ∧ w ex ρ q ∧
  ∀ v H' G' ρ' d, EnvOk S z G' ρ' σ H' → Same G G' → Rep S G' v d → q d ρ' → Q v H'
/-- a new object -/
def NOf (S : Stat) (z : Z) (ex : PW.XC) (w : PW.WE) : TE := fun σ H Q => ∃ G ρ q, EnvOk S z G ρ σ H ∧ w ex ρ q ∧
  ∀ a H' G' ρ' d, EnvOk S z G' ρ' σ H' → Same G G' → New S z G' ρ' σ H' a d → q d ρ' → Q (.ref a) H'
/-- p is to be looked at, now and later, as v -/
def Peeks (S : Stat) (z : Z) (σ : St) (v : V) (G : Hp) (p : PW.Pk) : Prop := ∀ G' ρ' H' q, EnvOk S z G' ρ' σ H' → Same G G' → p ρ' q → ∃ d, Look S G' H' v d ∧ q d
def ROf (S : Stat) (z : Z) (ex : PW.XC) (w : PW.WR) : TE := fun σ H Q => ∃ G ρ k, EnvOk S z G ρ σ H ∧ w ex ρ k ∧
  ∀ v H' G' ρ' p, EnvOk S z G' ρ' σ H' → Same G G' → Peeks S z σ v G' p → k p ρ' → Q v H'
def TTOf (S : Stat) (z : Z) (ex : PW.XC) (w : PW.WT) : TT := fun σ H Q => ∃ G ρ q, EnvOk S z G ρ σ H ∧ w ex ρ q ∧
  ∀ b H' G' ρ', EnvOk S z G' ρ' σ H' → Same G G' → q b ρ' → Q b H'
def TAOf (S : Stat) (z : Z) (ex : PW.XC) (w : PW.WA) : TA := fun σ H Q => ∃ G ρ q, EnvOk S z G ρ σ H ∧ w ex ρ q ∧
  ∀ vs H' G' ρ' ds, EnvOk S z G' ρ' σ H' → Same G G' → RepL S G' vs ds → q ds ρ' → Q vs H'
/-- what a def hands back: H the heap at its entry, vs its arguments -/
def RetOk (S : Stat) (G' H' H : Hp) (vs : List V) : PW.Ret → V → Prop
  | .sh d, v => Rep S G' v d
  | .fr d, v => ∃ a o, v = .ref a ∧ G' a = none ∧ H a = none ∧ H' a = some o ∧ Own S G' a o d
  | .arg i, v => vs[i]? = some v
/-- vs: the arguments at the entry -/
structure EndsOk (S : Stat) (z : Z) (vs : List V) (G : Hp) (E : PW.Ends) (D : Ends) : Prop where
  nx : ∀ G' ρ' σ' H', EnvOk S z G' ρ' σ' H' → Same G G' → E.nx ρ' → D.nx σ' H'
  rt : ∀ v G' ρ' σ' H' r, EnvOk S z G' ρ' σ' H' → Same G G' → RetOk S G' H' z.H0 vs r v → E.rt r ρ' → D.rt v H'
  bk : ∀ G' ρ' σ' H', EnvOk S z G' ρ' σ' H' → Same G G' → E.bk ρ' → D.bk σ' H'
  ct : ∀ G' ρ' σ' H', EnvOk S z G' ρ' σ' H' → Same G G' → E.ct ρ' → D.ct σ' H'
theorem EndsOk.at {S : Stat} {z : Z} {vs : List V} {G G' : Hp} {E : PW.Ends} {D : Ends} (h : EndsOk S z vs G E D) (s : Same G G') : EndsOk S z vs G' E D :=
  ⟨fun _ _ _ _ e q => h.nx _ _ _ _ e (s.trans q), fun _ _ _ _ _ _ e q => h.rt _ _ _ _ _ _ e (s.trans q), fun _ _ _ _ e q => h.bk _ _ _ _ e (s.trans q), fun _ _ _ _ e q => h.ct _ _ _ _ e (s.trans q)⟩
def TSOf (S : Stat) (z : Z) (vs : List V) (ex : PW.XC) (w : PW.WS) : TS := fun D σ H => ∃ G ρ E, EnvOk S z G ρ σ H ∧ w ex E ρ ∧ EndsOk S z vs G E D
end PS
end

section
set_option Elab.async false
set_option linter.all false
set_option maxRecDepth 100000
set_option maxHeartbeats 4000000
/-! PS2: names, constants, operators, comparisons. -/
namespace PS
open PySem PySem.Spec L2
open PyProof.Rows hiding St
theorem pe_imp {X : Cx} {e : Expr} {t t' : TE} (h : PE X e t) (i : ∀ σ H Q, t' σ H Q → t σ H Q) : PE X e t' := ⟨fun pins s σ H Q I q => h.run pins s σ H Q I (i σ H Q q)⟩
theorem pt_imp {X : Cx} {e : Expr} {t t' : TT} (h : PT X e t) (i : ∀ σ H Q, t' σ H Q → t σ H Q) : PT X e t' := ⟨fun pins s σ H Q I q => h.run pins s σ H Q I (i σ H Q q)⟩
theorem pw_imp {X : Cx} {e : Expr} {t t' : TT} (h : PW X e t) (i : ∀ σ H Q, t' σ H Q → t σ H Q) : PW X e t' := ⟨fun w pins s σ H Q I q => h.run w pins s σ H Q I (i σ H Q q)⟩
theorem pa_imp {X : Cx} {e : List Expr} {t t' : TA} (h : PA X e t) (i : ∀ σ H Q, t' σ H Q → t σ H Q) : PA X e t' := ⟨fun pos pins s σ H Q I q => h.run pos pins s σ H Q I (i σ H Q q)⟩
theorem ps_imp {X : Cx} {e : Stmt} {t t' : TS} (h : PS X e t) (i : ∀ D σ H, t' D σ H → t D σ H) : PS X e t' := ⟨fun pins s σ H D I q => h.run pins s σ H D I (i D σ H q)⟩
theorem pss_imp {X : Cx} {e : List Stmt} {t t' : TS} (h : PSs X e t) (i : ∀ D σ H, t' D σ H → t D σ H) : PSs X e t' := ⟨fun pins s σ H D I q => h.run pins s σ H D I (i D σ H q)⟩

section
variable {S : Stat} {X : Cx} {z : Z} {ex : PW.XC} {a b c : Expr} {wa wb wc : PW.WE} {ra rb : PW.WR} {pos : Pos}
abbrev SE (S : Stat) (z : Z) (ex : PW.XC) (X : Cx) (e : Expr) (w : PW.WE) : Prop := PE X e (TOf S z ex w)
abbrev NE (S : Stat) (z : Z) (ex : PW.XC) (X : Cx) (e : Expr) (w : PW.WE) : Prop := PE X e (NOf S z ex w)
abbrev RE (S : Stat) (z : Z) (ex : PW.XC) (X : Cx) (e : Expr) (w : PW.WR) : Prop := PE X e (ROf S z ex w)
abbrev ST (S : Stat) (z : Z) (ex : PW.XC) (X : Cx) (e : Expr) (w : PW.WT) : Prop := PT X e (TTOf S z ex w)
abbrev SW (S : Stat) (z : Z) (ex : PW.XC) (X : Cx) (e : Expr) (w : PW.WT) : Prop := PW X e (TTOf S z ex w)
abbrev SA (S : Stat) (z : Z) (ex : PW.XC) (X : Cx) (es : List Expr) (w : PW.WA) : Prop := PA X es (TAOf S z ex w)
/-! ### names, constants -/
theorem se_const {e : Expr} {v : V} {d : PW.D} (h : PE X e (tC v)) (r : ∀ G, Rep S G v d) : SE S z ex X e (PW.wC d) := pe_imp h fun σ H Q ⟨G, ρ, q, E, w, k⟩ => k v H G ρ d E (Same.refl G) (r G) w
theorem se_int {i : Int} {j} : SE S z ex X (.Constant (.int i) j pos) (PW.wC (.int i)) := se_const pe_int fun _ => .int i
theorem se_bl {b : Bool} {j} : SE S z ex X (.Constant (.bool b) j pos) (PW.wC (.bl b)) := se_const pe_bl fun _ => .bl b
theorem se_non {j} : SE S z ex X (.Constant .none j pos) (PW.wC .non) := se_const pe_non fun _ => .non
theorem se_str {x : Str} {s : List Nat} {j} (h : cpl x = s) : SE S z ex X (.Constant (.str x) j pos) (PW.wC (.str s)) := se_const pe_str fun _ => h ▸ .str x
/-- a module's number, text -/
theorem se_gint {x : Str} {i : Int} {t : Tok} (hg : Gl X x) (hm : X.mg x = some (.int i t)) (hd : (x == ("__debug__" : Str)) = false := by decide) : SE S z ex X (.Name x pos) (PW.wC (.int i)) := se_const (v := .int i) (pe_glob hg hm ⟨t, rfl⟩ hd) fun _ => .int i
theorem se_gstr {x y : Str} {s : List Nat} {t : Tok} (hg : Gl X x) (hm : X.mg x = some (.str y t)) (h : cpl y = s) (hd : (x == ("__debug__" : Str)) = false := by decide) : SE S z ex X (.Name x pos) (PW.wC (.str s)) := se_const (v := .str y) (pe_glob hg hm ⟨t, rfl⟩ hd) fun _ => h ▸ Rep.str y
theorem se_v (i : Nat) {x : Str} (hN : X.N[i]? = some x := by rfl) (hv : Vis X.env.scope x := by first | exact Or.inl rfl | exact Or.inr (Or.inl rfl) | exact Or.inr (Or.inr rfl)) (hd : (x == ("__debug__" : Str)) = false := by decide)
    (hcd : (x == ("__classdict__" : Str)) = false := by decide) : SE S z ex X (.Name x pos) (PW.wV i) := pe_imp (pv i hN hv hd hcd) fun σ H Q ⟨G, ρ, q, E, w, k⟩ => by
  unfold PW.wV at w
  cases e : ρ[i]? with
  | none => rw [e] at w; exact w.elim
  | some sl =>
    rw [e] at w
    cases sl with
    | sh d => obtain ⟨v, e1, r⟩ := E.slot i _ e; exact ⟨v, e1, k v H G ρ d E (Same.refl G) r w⟩
    | ow d => obtain ⟨G', v, E', sg, e1, r⟩ := E.freezeSlot e; exact ⟨v, e1, k v H G' _ d E' sg r w⟩
    | un => exact w.elim
    | bo d => exact w.elim
    | rd d => exact w.elim
theorem re_n (i : Nat) {x : Str} (hN : X.N[i]? = some x := by rfl) (hv : Vis X.env.scope x := by first | exact Or.inl rfl | exact Or.inr (Or.inl rfl) | exact Or.inr (Or.inr rfl)) (hd : (x == ("__debug__" : Str)) = false := by decide)
    (hcd : (x == ("__classdict__" : Str)) = false := by decide) : RE S z ex X (.Name x pos) (PW.rN i) := pe_imp (pv i hN hv hd hcd) fun σ H Q ⟨G, ρ, k, E, ⟨h0, w⟩, kk⟩ => by
  obtain ⟨v, _, e1, _, _⟩ := E.look h0
  refine ⟨v, e1, kk v H G ρ _ E (Same.refl G) (fun G' ρ' H' q E' _ h => ?_) w⟩
  obtain ⟨v', d, e2, l, hq⟩ := E'.look h
  rw [e1] at e2; cases e2
  exact ⟨d, l, hq⟩
theorem re_e (h : SE S z ex X a wa) : RE S z ex X a (PW.rE wa) := pe_imp h fun σ H Q ⟨G, ρ, k, E, w, kk⟩ =>
  ⟨G, ρ, _, E, w, fun v H' G' ρ' d E' sg r q => kk v H' G' ρ' _ E' sg (fun G2 ρ2 H2 q2 E2 sg2 hq => ⟨d, .inl (r.mono sg2), hq⟩) q⟩
/-- a new object is shared -/
theorem se_new (h : NE S z ex X a wa) : SE S z ex X a wa := pe_imp h fun σ H Q ⟨G, ρ, q, E, w, k⟩ =>
  ⟨G, ρ, q, E, w, fun a H' G' ρ' d E' sg N hq => by
    obtain ⟨G2, E2, sg2, r⟩ := N.freeze E'
    exact k _ H' G2 ρ' d E2 (sg.trans sg2) r hq⟩

/-! ### operators by values -/
/-- f is what r asks -/
def L1 (S : Stat) (f : PW.F1) (r : V → Hp → VK → Prop) : Prop := ∀ (z : Z) (G : Hp) (ρ : PW.Env) (σ : St) (H : Hp) (x : V) (d : PW.D) (q : PW.D → Prop) (Q : VK), EnvOk S z G ρ σ H → Look S G H x d → f d q →
  (∀ v H' G' d, EnvOk S z G' ρ σ H' → Same G G' → Rep S G' v d → q d → Q v H') → r x H Q
def L2k (S : Stat) (f : PW.F2) (r : R2) : Prop := ∀ (z : Z) (G : Hp) (ρ : PW.Env) (σ : St) (H : Hp) (x y : V) (d e : PW.D) (q : PW.D → Prop) (Q : VK), EnvOk S z G ρ σ H → Look S G H x d → Look S G H y e → f d e q →
  (∀ v H' G' d, EnvOk S z G' ρ σ H' → Same G G' → Rep S G' v d → q d → Q v H') → r x y H Q
/-- the same for a new object -/
def N1 (S : Stat) (f : PW.F1) (r : V → Hp → VK → Prop) : Prop := ∀ (z : Z) (G : Hp) (ρ : PW.Env) (σ : St) (H : Hp) (x : V) (d : PW.D) (q : PW.D → Prop) (Q : VK), EnvOk S z G ρ σ H → Look S G H x d → f d q →
  (∀ a H' d, EnvOk S z G ρ σ H' → New S z G ρ σ H' a d → q d → Q (.ref a) H') → r x H Q
def N2 (S : Stat) (f : PW.F2) (r : R2) : Prop := ∀ (z : Z) (G : Hp) (ρ : PW.Env) (σ : St) (H : Hp) (x y : V) (d e : PW.D) (q : PW.D → Prop) (Q : VK), EnvOk S z G ρ σ H → Look S G H x d → Look S G H y e → f d e q →
  (∀ a H' d, EnvOk S z G ρ σ H' → New S z G ρ σ H' a d → q d → Q (.ref a) H') → r x y H Q
/-- any operation on one looked-at value -/
theorem se_lk {e : Expr} {f : PW.F1} {r : V → Hp → VK → Prop} (l : L1 S f r) (ha : RE S z ex X a ra) (h : ∀ t : TE, PE X a t → PE X e (fun σ H Q => t σ H fun x H1 => r x H1 Q)) : SE S z ex X e (PW.wLk f ra) := pe_imp (h _ ha) fun σ H Q ⟨G, ρ, q, E, w, k⟩ =>
  ⟨G, ρ, _, E, w, fun v H' G' ρ' p E' sg pk hp => by
    obtain ⟨d, lk, hf⟩ := pk G' ρ' H' _ E' (Same.refl _) hp
    exact l z G' ρ' σ H' v d _ Q E' lk hf fun v2 H2 G2 d2 E2 sg2 r2 q2 => k v2 H2 G2 ρ' d2 E2 (sg.trans sg2) r2 q2⟩
theorem se_un1 {e : Expr} {f : PW.F1} {r : V → Hp → VK → Prop} (l : L1 S f r) (ha : SE S z ex X a wa) (h : ∀ t : TE, PE X a t → PE X e (fun σ H Q => t σ H fun x H1 => r x H1 Q)) : SE S z ex X e (PW.wUn f wa) := pe_imp (h _ ha) fun σ H Q ⟨G, ρ, q, E, w, k⟩ =>
  ⟨G, ρ, _, E, w, fun v H' G' ρ' d E' sg rp hf => l z G' ρ' σ H' v d _ Q E' (.inl rp) hf fun v2 H2 G2 d2 E2 sg2 r2 q2 => k v2 H2 G2 ρ' d2 E2 (sg.trans sg2) r2 q2⟩
theorem ne_lk {e : Expr} {f : PW.F1} {r : V → Hp → VK → Prop} (l : N1 S f r) (ha : RE S z ex X a ra) (h : ∀ t : TE, PE X a t → PE X e (fun σ H Q => t σ H fun x H1 => r x H1 Q)) : NE S z ex X e (PW.wLk f ra) := pe_imp (h _ ha) fun σ H Q ⟨G, ρ, q, E, w, k⟩ =>
  ⟨G, ρ, _, E, w, fun v H' G' ρ' p E' sg pk hp => by
    obtain ⟨d, lk, hf⟩ := pk G' ρ' H' _ E' (Same.refl _) hp
    exact l z G' ρ' σ H' v d _ Q E' lk hf fun v2 H2 d2 E2 n2 q2 => k v2 H2 G' ρ' d2 E2 sg n2 q2⟩
theorem Look.mono {G G' H H' : Hp} {v : V} {d : PW.D} (h : Rep S G v d) (sg : Same G G') : Look S G' H' v d := .inl (h.mono sg)
/-- any operation on two: values; a look and a value; a value and a look; two looks -/
theorem tBin {f : PW.F2} {r : R2} (l : L2k S f r) {σ : St} {H : Hp} {Q : VK} (h : TOf S z ex (PW.wBin f wa wb) σ H Q) : tOp r (TOf S z ex wa) (TOf S z ex wb) σ H Q := by
  obtain ⟨G, ρ, q, E, w, k⟩ := h
  exact ⟨G, ρ, _, E, w, fun x H1 G1 ρ1 d E1 sg1 r1 w1 => ⟨G1, ρ1, _, E1, w1, fun y H2 G2 ρ2 e E2 sg2 r2 hf =>
    l z G2 ρ2 σ H2 x y d e _ Q E2 (.inl (r1.mono sg2)) (.inl r2) hf fun v H3 G3 d3 E3 sg3 r3 q3 => k v H3 G3 ρ2 d3 E3 ((sg1.trans sg2).trans sg3) r3 q3⟩⟩
theorem tLk2 {f : PW.F2} {r : R2} (l : L2k S f r) {σ : St} {H : Hp} {Q : VK} (h : TOf S z ex (PW.wLk2 f ra wb) σ H Q) : tOp r (ROf S z ex ra) (TOf S z ex wb) σ H Q := by
  obtain ⟨G, ρ, q, E, w, k⟩ := h
  exact ⟨G, ρ, _, E, w, fun x H1 G1 ρ1 p E1 sg1 pk w1 => ⟨G1, ρ1, _, E1, w1, fun y H2 G2 ρ2 e E2 sg2 r2 hp => by
    obtain ⟨d, lk, hf⟩ := pk G2 ρ2 H2 _ E2 sg2 hp
    exact l z G2 ρ2 σ H2 x y d e _ Q E2 lk (.inl r2) hf fun v H3 G3 d3 E3 sg3 r3 q3 => k v H3 G3 ρ2 d3 E3 ((sg1.trans sg2).trans sg3) r3 q3⟩⟩
theorem tLkR {f : PW.F2} {r : R2} (l : L2k S f r) {σ : St} {H : Hp} {Q : VK} (h : TOf S z ex (PW.wLkR f wa rb) σ H Q) : tOp r (TOf S z ex wa) (ROf S z ex rb) σ H Q := by
  obtain ⟨G, ρ, q, E, w, k⟩ := h
  exact ⟨G, ρ, _, E, w, fun x H1 G1 ρ1 d E1 sg1 r1 w1 => ⟨G1, ρ1, _, E1, w1, fun y H2 G2 ρ2 p E2 sg2 pk hp => by
    obtain ⟨e, lk, hf⟩ := pk G2 ρ2 H2 _ E2 (Same.refl _) hp
    exact l z G2 ρ2 σ H2 x y d e _ Q E2 (.inl (r1.mono sg2)) lk hf fun v H3 G3 d3 E3 sg3 r3 q3 => k v H3 G3 ρ2 d3 E3 ((sg1.trans sg2).trans sg3) r3 q3⟩⟩
theorem tLkB {f : PW.F2} {r : R2} (l : L2k S f r) {σ : St} {H : Hp} {Q : VK} (h : TOf S z ex (PW.wLkB f ra rb) σ H Q) : tOp r (ROf S z ex ra) (ROf S z ex rb) σ H Q := by
  obtain ⟨G, ρ, q, E, w, k⟩ := h
  exact ⟨G, ρ, _, E, w, fun x H1 G1 ρ1 p E1 sg1 pk w1 => ⟨G1, ρ1, _, E1, w1, fun y H2 G2 ρ2 p' E2 sg2 pk' hp => by
    obtain ⟨d, lk, hp'⟩ := pk G2 ρ2 H2 _ E2 sg2 hp
    obtain ⟨e, lk', hf⟩ := pk' G2 ρ2 H2 _ E2 (Same.refl _) hp'
    exact l z G2 ρ2 σ H2 x y d e _ Q E2 lk lk' hf fun v H3 G3 d3 E3 sg3 r3 q3 => k v H3 G3 ρ2 d3 E3 ((sg1.trans sg2).trans sg3) r3 q3⟩⟩
theorem nBin {f : PW.F2} {r : R2} (l : N2 S f r) {σ : St} {H : Hp} {Q : VK} (h : NOf S z ex (PW.wLkB f ra rb) σ H Q) : tOp r (ROf S z ex ra) (ROf S z ex rb) σ H Q := by
  obtain ⟨G, ρ, q, E, w, k⟩ := h
  exact ⟨G, ρ, _, E, w, fun x H1 G1 ρ1 p E1 sg1 pk w1 => ⟨G1, ρ1, _, E1, w1, fun y H2 G2 ρ2 p' E2 sg2 pk' hp => by
    obtain ⟨d, lk, hp'⟩ := pk G2 ρ2 H2 _ E2 sg2 hp
    obtain ⟨e, lk', hf⟩ := pk' G2 ρ2 H2 _ E2 (Same.refl _) hp'
    exact l z G2 ρ2 σ H2 x y d e _ Q E2 lk lk' hf fun v H3 d3 E3 n3 q3 => k v H3 G2 ρ2 d3 E3 (sg1.trans sg2) n3 q3⟩⟩
/-! ### what the operators ask -/
theorem Look.int_of {G H : Hp} {v : V} {i : Int} (h : Look S G H v (.int i)) : v = .int i := by
  rcases h with h | ⟨a, o, rfl, _, h⟩
  · exact h.int_of
  · cases h
theorem Look.bl_of {G H : Hp} {v : V} {i : Bool} (h : Look S G H v (.bl i)) : v = .bl i := by
  rcases h with h | ⟨a, o, rfl, _, h⟩
  · exact h.bl_of
  · cases h
theorem Look.str_of {G H : Hp} {v : V} {s : List Nat} (h : Look S G H v (.str s)) : ∃ x, v = .str x ∧ cpl x = s := by
  rcases h with h | ⟨a, o, rfl, _, h⟩
  · exact h.str_of
  · cases h
theorem Look.tup_of {G H : Hp} {v : V} {ds : List PW.D} (h : Look S G H v (.tup ds)) : ∃ a xs, v = .ref a ∧ SqT S.K G a xs ∧ RepL S G xs ds := by
  rcases h with h | ⟨a, o, rfl, _, h⟩
  · exact h.tup_of
  · cases h
theorem Look.lst_of {G H : Hp} {v : V} {ds : List PW.D} (sm : Same G H) (h : Look S G H v (.lst ds)) : ∃ a xs, v = .ref a ∧ H a = some (.lst xs) ∧ RepL S G xs ds := by
  rcases h with h | ⟨a, o, rfl, ho, h⟩
  · obtain ⟨a, xs, e, ha, r⟩ := h.lst_of
    exact ⟨a, xs, e, sm _ _ ha, r⟩
  · cases h with
    | lst r => exact ⟨a, _, rfl, ho, r⟩
theorem Look.obj_of {G H : Hp} {v : V} {c : String} {fds : List (String × PW.D)} (sm : Same G H) (h : Look S G H v (.obj c fds)) : ∃ a C dx fs, v = .ref a ∧ H a = some (.ins C dx fs) ∧ S.cls c = some C ∧ RepF S G fs fds := by
  rcases h with h | ⟨a, o, rfl, ho, h⟩
  · cases h with
    | obj h1 h2 h3 => exact ⟨_, _, _, _, rfl, sm _ _ h1, h2, h3⟩
  · cases h with
    | obj h2 h3 => exact ⟨a, _, _, _, rfl, ho, h2, h3⟩
/-- ints in, a scalar out -/
theorem l_ii {f : PW.F2} {C : Int → Int → Prop} {g : Int → Int → V} (h : ∀ d e q, f d e q → ∃ i j u, d = .int i ∧ e = .int j ∧ C i j ∧ q u ∧ ∀ G, Rep S G (g i j) u) : L2k S f (rI C g) := fun z G ρ σ H x y d e q Q E hx hy hf k => by
  obtain ⟨i, j, u, rfl, rfl, c, hq, r⟩ := h d e q hf
  exact ⟨i, j, hx.int_of, hy.int_of, c, k _ H G u E (Same.refl G) (r G) hq⟩
theorem l_ii0 {f : PW.F2} {g : Int → Int → V} (h : ∀ d e q, f d e q → ∃ i j u, d = .int i ∧ e = .int j ∧ q u ∧ ∀ G, Rep S G (g i j) u) : L2k S f (rI0 g) := fun z G ρ σ H x y d e q Q E hx hy hf k => by
  obtain ⟨i, j, u, rfl, rfl, hq, r⟩ := h d e q hf
  exact ⟨i, j, hx.int_of, hy.int_of, k _ H G u E (Same.refl G) (r G) hq⟩
theorem l_sub : L2k S PW.fSub (rI0 fun i j => .int (i - j)) := l_ii0 fun d e q h => by
  cases d <;> cases e <;> first | exact h.elim | exact ⟨_, _, _, rfl, rfl, h, fun _ => .int _⟩
theorem l_fdiv : L2k S PW.fFdiv (rI CDiv fun i j => .int (i / j)) := l_ii fun d e q h => by
  cases d <;> cases e <;> first | exact h.elim | exact ⟨_, _, _, rfl, rfl, h.1, h.2, fun _ => .int _⟩
theorem l_mod : L2k S PW.fMod (rI (fun _ j => 0 < j) fun i j => .int (i % j)) := l_ii fun d e q h => by
  cases d <;> cases e <;> first | exact h.elim | exact ⟨_, _, _, rfl, rfl, h.1, h.2, fun _ => .int _⟩
theorem l_pow : L2k S PW.fPow (rI CPow fun i j => .int (i ^ j.toNat)) := l_ii fun d e q h => by
  cases d <;> cases e <;> first | exact h.elim | exact ⟨_, _, _, rfl, rfl, h.1, h.2, fun _ => .int _⟩
theorem l_shl : L2k S PW.fShl (rI CPow fun i j => .int (i * 2 ^ j.toNat)) := l_ii fun d e q h => by
  cases d <;> cases e <;> first | exact h.elim | exact ⟨_, _, _, rfl, rfl, h.1, h.2, fun _ => .int _⟩
theorem l_shr : L2k S PW.fShr (rI (fun _ j => 0 ≤ j) fun i j => .int (i / 2 ^ j.toNat)) := l_ii fun d e q h => by
  cases d <;> cases e <;> first | exact h.elim | exact ⟨_, _, _, rfl, rfl, h.1, h.2, fun _ => .int _⟩
theorem l_and : L2k S PW.fAnd (rI0 fun i j => .int (Builtin.bitAnd i j)) := l_ii0 fun d e q h => by
  cases d <;> cases e <;> first | exact h.elim | exact ⟨_, _, _, rfl, rfl, h.2, fun _ => by rw [bitAnd_pp h.1.1 h.1.2]; exact .int _⟩
theorem l_or : L2k S PW.fOr (rI0 fun i j => .int (Builtin.bitOr i j)) := l_ii0 fun d e q h => by
  cases d <;> cases e <;> first | exact h.elim | exact ⟨_, _, _, rfl, rfl, h.2, fun _ => by rw [Bits.bitOr_pp h.1.1 h.1.2]; exact .int _⟩
theorem l_xor : L2k S PW.fXor (rI0 fun i j => .int (Builtin.bitXor i j)) := l_ii0 fun d e q h => by
  cases d <;> cases e <;> first | exact h.elim | exact ⟨_, _, _, rfl, rfl, h.2, fun _ => by rw [Bits.bitXor_pp h.1.1 h.1.2]; exact .int _⟩
theorem L2k.or {f : PW.F2} {r r' : R2} (h : ∀ z G ρ σ H x y d e q Q, EnvOk S z G ρ σ H → Look S G H x d → Look S G H y e → f d e q →
  (∀ v H' G' d, EnvOk S z G' ρ σ H' → Same G G' → Rep S G' v d → q d → Q v H') → r x y H Q ∨ r' x y H Q) : L2k S f (fun x y H Q => r x y H Q ∨ r' x y H Q) := h
def rStrMul : R2 := fun x y H Q => ∃ i n, x = .str i ∧ y = .int n ∧ -(16777216 : Int) ≤ n ∧ n ≤ 16777216 ∧ i.length * n.toNat ≤ sizeLine ∧ Q (.str (mkS (PW.repL (cpl i) n.toNat))) H
theorem app_cpl (x y : Str) : cpl (x ++ y) = cpl x ++ cpl y := by
  show (x.cps ++ y.cps).toList = _
  simp [cpl]
theorem SqT.at {K : PySem.W.Frag} {G H : Hp} {a : Addr} {xs : List V} (s : Same G H) (h : SqT K G a xs) : SqT K H a xs := Same.seqT s h
abbrev rAdd3 (K : PySem.W.Frag) : R2 := fun x y H Q => (∃ i j, x = .int i ∧ y = .int j ∧ Q (.int (i + j)) H) ∨ ((∃ i j, x = .str i ∧ y = .str j ∧ i.length + j.length ≤ sizeLine ∧ Q (.str (i ++ j)) H) ∨ rCatA K x y H Q)
theorem l_add : L2k S PW.fAdd (rAdd3 S.K) := fun z G ρ σ H x y d e q Q E hx hy hf k => by
  cases d <;> cases e <;> first | exact hf.elim | skip
  · exact .inl ⟨_, _, hx.int_of, hy.int_of, k _ H G _ E (Same.refl G) (.int _) hf⟩
  · obtain ⟨x', rfl, rfl⟩ := hx.str_of
    obtain ⟨y', rfl, rfl⟩ := hy.str_of
    refine .inr (.inl ⟨_, _, rfl, rfl, by rw [cpl_len, cpl_len, ← line_eq]; exact hf.1, k _ H G _ E (Same.refl G) ?_ hf.2⟩)
    rw [← app_cpl]; exact .str _
  · obtain ⟨a, xs, rfl, ha, ra⟩ := hx.tup_of
    obtain ⟨b, ys, rfl, hb, rb⟩ := hy.tup_of
    refine .inr (.inr ⟨a, b, xs, ys, rfl, rfl, SqT.at E.same ha, SqT.at E.same hb, by rw [ra.len, rb.len, ← line_eq]; exact hf.1, fun e => ?_, fun _ e => ?_, fun _ _ p np => ?_⟩)
    · subst e; cases ra
      exact k _ H G _ E (Same.refl G) (.tup hb rb) hf.2
    · subst e; cases rb
      have := hf.2
      rw [List.append_nil] at this
      exact k _ H G _ E (Same.refl G) (.tup ha ra) this
    · obtain ⟨E', sg⟩ := E.laid np (.tup (xs ++ ys))
      exact k _ _ _ _ E' sg (.tup (SqT.of upd_same) ((ra.mono sg).append (rb.mono sg))) hf.2
theorem rEq_is {G H : Hp} : True := trivial
theorem l_lt : L2k S PW.fLt (fun x y H Q => rI0 (fun i j => .bl (decide (i < j))) x y H Q ∨ ∃ i j, x = .str i ∧ y = .str j ∧ Q (.bl (decide (i.cps.toList < j.cps.toList))) H) := fun z G ρ σ H x y d e q Q E hx hy hf k => by
  cases d <;> cases e <;> first | exact hf.elim | skip
  · exact .inl ⟨_, _, hx.int_of, hy.int_of, k _ H G _ E (Same.refl G) (.bl _) hf⟩
  · obtain ⟨x', rfl, rfl⟩ := hx.str_of
    obtain ⟨y', rfl, rfl⟩ := hy.str_of
    exact .inr ⟨_, _, rfl, rfl, k _ H G _ E (Same.refl G) (.bl _) hf⟩
theorem l_gt : L2k S PW.fGt (fun x y H Q => rI0 (fun i j => .bl (decide (j < i))) x y H Q ∨ ∃ i j, x = .str i ∧ y = .str j ∧ Q (.bl (decide (j.cps.toList < i.cps.toList))) H) := fun z G ρ σ H x y d e q Q E hx hy hf k => by
  cases d <;> cases e <;> first | exact hf.elim | skip
  · exact .inl ⟨_, _, hx.int_of, hy.int_of, k _ H G _ E (Same.refl G) (.bl _) hf⟩
  · obtain ⟨x', rfl, rfl⟩ := hx.str_of
    obtain ⟨y', rfl, rfl⟩ := hy.str_of
    exact .inr ⟨_, _, rfl, rfl, k _ H G _ E (Same.refl G) (.bl _) hf⟩
theorem dec_le (s t : List Nat) : (!decide (t < s)) = decide (s ≤ t) := by
  rw [← decide_not]
  exact decide_eq_decide.mpr (by rw [List.not_lt])
theorem l_le : L2k S PW.fLe (fun x y H Q => rI0 (fun i j => .bl (decide (i ≤ j))) x y H Q ∨ ∃ i j, x = .str i ∧ y = .str j ∧ Q (.bl (!decide (j.cps.toList < i.cps.toList))) H) := fun z G ρ σ H x y d e q Q E hx hy hf k => by
  cases d <;> cases e <;> first | exact hf.elim | skip
  · exact .inl ⟨_, _, hx.int_of, hy.int_of, k _ H G _ E (Same.refl G) (.bl _) hf⟩
  · obtain ⟨x', rfl, rfl⟩ := hx.str_of
    obtain ⟨y', rfl, rfl⟩ := hy.str_of
    refine .inr ⟨_, _, rfl, rfl, k _ H G _ E (Same.refl G) ?_ hf⟩
    rw [dec_le]; exact .bl _
theorem l_ge : L2k S PW.fGe (fun x y H Q => rI0 (fun i j => .bl (decide (j ≤ i))) x y H Q ∨ ∃ i j, x = .str i ∧ y = .str j ∧ Q (.bl (!decide (i.cps.toList < j.cps.toList))) H) := fun z G ρ σ H x y d e q Q E hx hy hf k => by
  cases d <;> cases e <;> first | exact hf.elim | skip
  · exact .inl ⟨_, _, hx.int_of, hy.int_of, k _ H G _ E (Same.refl G) (.bl _) hf⟩
  · obtain ⟨x', rfl, rfl⟩ := hx.str_of
    obtain ⟨y', rfl, rfl⟩ := hy.str_of
    refine .inr ⟨_, _, rfl, rfl, k _ H G _ E (Same.refl G) ?_ hf⟩
    rw [dec_le]; exact .bl _
end
end PS
end

section
set_option Elab.async false
set_option linter.all false
set_option maxRecDepth 100000
set_option maxHeartbeats 4000000
/-! PS3: ==, in, places, slices, built-ins, fields, tests, displays. -/
namespace PS
open PySem PySem.Spec L2
open PyProof.Rows hiding St
/-! ### == -/
mutual
def toPy : PW.D → PyData
  | .non => .none
  | .bl b => .bool b
  | .int i => .int i
  | .str s => .str (mkS s)
  | .tup ds => .tuple (toPys ds)
  | .lst ds => .list (toPys ds)
  | _ => .none
def toPys : List PW.D → List PyData
  | [] => []
  | d :: ds => toPy d :: toPys ds
end
theorem mkS_beq (s t : List Nat) : (mkS s == mkS t) = (s == t) := by
  rw [Bool.eq_iff_iff, beq_iff_eq, beq_iff_eq]
  exact ⟨fun h => by have := congrArg cpl h; rwa [cpl_mk, cpl_mk] at this, fun h => by rw [h]⟩
mutual
theorem eqv_py : ∀ (x y : PW.D) (n m : Nat), PW.plain x n = true → PW.plain y m = true → PyData.eqv (toPy x) (toPy y) = PW.eqv x y
  | .non, y, n, m, hx, hy => by cases y <;> first | (simp [PW.plain] at hy; done) | simp [toPy, PyData.eqv, PW.eqv]
  | .bl a, y, n, m, hx, hy => by cases y <;> first | (simp [PW.plain] at hy; done) | (simp [toPy, PyData.eqv, PW.eqv, PW.b2i]; done)
  | .int a, y, n, m, hx, hy => by cases y <;> first | (simp [PW.plain] at hy; done) | (simp [toPy, PyData.eqv, PW.eqv, PW.b2i]; done)
  | .str a, y, n, m, hx, hy => by
    cases y with
    | str b => simp only [toPy, PyData.eqv, PW.eqv]; exact mkS_beq a b
    | _ => first | (simp [PW.plain] at hy; done) | (simp [toPy, PyData.eqv, PW.eqv]; done)
  | .tup a, y, n, m, hx, hy => by
    cases y with
    | tup b =>
      cases n with
      | zero => simp [PW.plain] at hx
      | succ n => cases m with
        | zero => simp [PW.plain] at hy
        | succ m =>
          simp only [PW.plain] at hx hy
          simp only [toPy, PyData.eqv, PW.eqv]
          exact eqv_pys a b n m hx hy
    | _ => first | (simp [PW.plain] at hy; done) | (simp [toPy, PyData.eqv, PW.eqv]; done)
  | .lst a, y, n, m, hx, hy => by
    cases y with
    | lst b =>
      cases n with
      | zero => simp [PW.plain] at hx
      | succ n => cases m with
        | zero => simp [PW.plain] at hy
        | succ m =>
          simp only [PW.plain] at hx hy
          simp only [toPy, PyData.eqv, PW.eqv]
          exact eqv_pys a b n m hx hy
    | _ => first | (simp [PW.plain] at hy; done) | (simp [toPy, PyData.eqv, PW.eqv]; done)
  | .dic _, _, _, _, hx, _ => by simp [PW.plain] at hx
  | .dit _, _, _, _, hx, _ => by simp [PW.plain] at hx
  | .obj _ _, _, _, _, hx, _ => by simp [PW.plain] at hx
  | .scr _, _, _, _, hx, _ => by simp [PW.plain] at hx
theorem eqv_pys : ∀ (x y : List PW.D) (n m : Nat), PW.plainL x n = true → PW.plainL y m = true → PyData.eqvAll (toPys x) (toPys y) = PW.eqvL x y
  | [], [], _, _, _, _ => by simp [toPys, PyData.eqvAll, PW.eqvL]
  | [], b :: bs, _, _, _, _ => by simp [toPys, PyData.eqvAll, PW.eqvL]
  | a :: as, [], _, _, _, _ => by simp [toPys, PyData.eqvAll, PW.eqvL]
  | a :: as, b :: bs, n, m, hx, hy => by
    simp only [PW.plainL, Bool.and_eq_true] at hx hy
    simp only [toPys, PyData.eqvAll, PW.eqvL]
    rw [eqv_py a b n m hx.1 hy.1, eqv_pys as bs n m hx.2 hy.2]
end
mutual
theorem lay_py : ∀ (x : PW.D) (n : Nat), PW.plain x n = true → (toPy x).canLay0 = true ∧ (toPy x).depth ≤ n
  | .non, n, _ => by simp [toPy, PyData.canLay0, PyData.depth]
  | .bl a, n, _ => by simp [toPy, PyData.canLay0, PyData.depth]
  | .int a, n, _ => by simp [toPy, PyData.canLay0, PyData.depth]
  | .str a, n, h => by
    simp only [PW.plain] at h
    simp only [toPy, PyData.canLay0, PyData.depth]
    refine ⟨?_, Nat.zero_le _⟩
    show ((mkS a).cps.all fun c => decide (c < 0x110000)) = true
    simpa [mkS] using h
  | .tup a, n, h => by
    cases n with
    | zero => simp [PW.plain] at h
    | succ n =>
      simp only [PW.plain] at h
      obtain ⟨h1, h2⟩ := lay_pys a n h
      simp only [toPy, PyData.canLay0, PyData.depth]
      exact ⟨h1, Nat.succ_le_succ h2⟩
  | .lst a, n, h => by
    cases n with
    | zero => simp [PW.plain] at h
    | succ n =>
      simp only [PW.plain] at h
      obtain ⟨h1, h2⟩ := lay_pys a n h
      simp only [toPy, PyData.canLay0, PyData.depth]
      exact ⟨h1, Nat.succ_le_succ h2⟩
  | .dic _, _, hx => by simp [PW.plain] at hx
  | .dit _, _, hx => by simp [PW.plain] at hx
  | .obj _ _, _, hx => by simp [PW.plain] at hx
  | .scr _, _, hx => by simp [PW.plain] at hx
theorem lay_pys : ∀ (x : List PW.D) (n : Nat), PW.plainL x n = true → PyData.canLayAll0 (toPys x) = true ∧ PyData.depthAll (toPys x) ≤ n
  | [], n, _ => by simp [toPys, PyData.canLayAll0, PyData.depthAll]
  | a :: as, n, h => by
    simp only [PW.plainL, Bool.and_eq_true] at h
    obtain ⟨h1, h2⟩ := lay_py a n h.1
    obtain ⟨h3, h4⟩ := lay_pys as n h.2
    simp only [toPys, PyData.canLayAll0, PyData.depthAll]
    exact ⟨by rw [h1, h3]; rfl, Nat.max_le.mpr ⟨h2, h4⟩⟩
end
theorem shaped_py {x : PW.D} (h : PW.plain x 60 = true) : SeqAt.shaped (toPy x) = true := by
  obtain ⟨h1, h2⟩ := lay_py x 60 h
  unfold SeqAt.shaped
  rw [h1, Bool.true_and]
  exact decide_eq_true (Nat.le_trans h2 (by decide))
section
variable {S : Stat} {G H : Hp}
mutual
theorem dp_of (sm : Same G H) : ∀ {x : PW.D} {v : V} {n : Nat}, PW.plain x n = true → Rep S G v x → Dp S.K H v (toPy x)
  | .non, _, _, _, .non => by simp only [toPy]; exact .non
  | .bl _, _, _, _, .bl b => by simp only [toPy]; exact .bl b
  | .int _, _, _, _, .int i => by simp only [toPy]; exact .int i
  | .str _, _, _, _, .str x => by simp only [toPy]; rw [mk_cpl]; exact .str x
  | .tup ds, _, n, h, .tup a r => by
    cases n with
    | zero => simp [PW.plain] at h
    | succ n => simp only [PW.plain] at h; simp only [toPy]; exact .tup (Same.seqT sm a) (dps_of sm h r)
  | .lst ds, _, n, h, .lst a r => by
    cases n with
    | zero => simp [PW.plain] at h
    | succ n => simp only [PW.plain] at h; simp only [toPy]; exact .lst (SqL.of (sm _ _ a)) (dps_of sm h r)
  | .dic _, _, _, h, _ => by simp [PW.plain] at h
  | .dit _, _, _, h, _ => by simp [PW.plain] at h
  | .obj _ _, _, _, h, _ => by simp [PW.plain] at h
  | .scr _, _, _, h, _ => by simp [PW.plain] at h
theorem dps_of (sm : Same G H) : ∀ {x : List PW.D} {v : List V} {n : Nat}, PW.plainL x n = true → RepL S G v x → DpAll S.K H v (toPys x)
  | [], _, _, _, .nil => by simp only [toPys]; exact .nil
  | d :: ds, _, n, h, .cons a r => by
    simp only [PW.plainL, Bool.and_eq_true] at h
    simp only [toPys]
    exact .cons (dp_of sm h.1 a) (dps_of sm h.2 r)
end
theorem dp_look (sm : Same G H) {x : PW.D} {v : V} {n : Nat} (h : PW.plain x n = true) (l : Look S G H v x) : Dp S.K H v (toPy x) := by
  rcases l with r | ⟨a, o, rfl, ho, r⟩
  · exact dp_of sm h r
  · cases r with
    | lst r =>
      cases n with
      | zero => simp [PW.plain] at h
      | succ n => simp only [PW.plain] at h; simp only [toPy]; exact .lst (SqL.of ho) (dps_of sm h r)
    | dK r => simp [PW.plain] at h
    | dN r => simp [PW.plain] at h
    | obj c r => simp [PW.plain] at h
end
section
variable {S : Stat} {X : Cx} {z : Z} {ex : PW.XC} {a b c : Expr} {wa wb wc : PW.WE} {ra rb : PW.WR} {pos : Pos}
theorem l_eq : L2k S PW.fEq (rEqD S.K) := fun z G ρ σ H x y d e q Q E hx hy hf k =>
  ⟨toPy d, toPy e, dp_look E.same hf.1.1 hx, dp_look E.same hf.1.2 hy, shaped_py hf.1.1, shaped_py hf.1.2, by rw [eqv_py d e 60 60 hf.1.1 hf.1.2]; exact k _ H G _ E (Same.refl G) (.bl _) hf.2⟩
theorem l_ne : L2k S PW.fNe (rNeD S.K) := fun z G ρ σ H x y d e q Q E hx hy hf k =>
  ⟨toPy d, toPy e, dp_look E.same hf.1.1 hx, dp_look E.same hf.1.2 hy, shaped_py hf.1.1, shaped_py hf.1.2, by rw [eqv_py d e 60 60 hf.1.1 hf.1.2]; exact k _ H G _ E (Same.refl G) (.bl _) hf.2⟩
/-! ### in -/
theorem flat_look {G H : Hp} {v : V} {d : PW.D} (f : PW.flat d = true) (l : Look S G H v d) : flatV v = true ∧ Rep S G v d := by
  rcases l with r | ⟨a, o, rfl, _, r⟩
  · cases r <;> first | exact ⟨rfl, by assumption⟩ | exact ⟨rfl, .non⟩ | exact ⟨rfl, .bl _⟩ | exact ⟨rfl, .int _⟩ | exact ⟨rfl, .str _⟩ | exact absurd f Bool.false_ne_true
  · cases r <;> exact absurd f Bool.false_ne_true
theorem eqV_eqv {G : Hp} {x y : V} {d e : PW.D} (fd : PW.flat d = true) (fe : PW.flat e = true) (rx : Rep S G x d) (ry : Rep S G y e) : eqV x y = PW.eqv d e := by
  cases rx <;> first | exact absurd fd Bool.false_ne_true | skip
  all_goals (cases ry <;> first | exact absurd fe Bool.false_ne_true | skip)
  all_goals first
    | rfl
    | (simp only [eqV, PW.eqv]
       rw [Bool.eq_iff_iff, beq_iff_eq, beq_iff_eq]
       exact ⟨fun h => by rw [h], fun h => cpl_inj h⟩)
theorem any_eqv {G : Hp} {x : V} {d : PW.D} (fd : PW.flat d = true) (rx : Rep S G x d) : ∀ {xs : List V} {ds : List PW.D}, RepL S G xs ds → ds.all PW.flat = true → xs.all flatV = true ∧ inV x xs = ds.any fun e => PW.eqv e d
  | _, _, .nil, _ => ⟨rfl, rfl⟩
  | y :: ys, e :: es, .cons r t, h => by
    rw [List.all_cons, Bool.and_eq_true] at h
    obtain ⟨h1, h2⟩ := any_eqv fd rx t h.2
    refine ⟨by rw [List.all_cons, h1, (flat_look (H := G) h.1 (.inl r)).1]; rfl, ?_⟩
    show (eqV y x || inV x ys) = (PW.eqv e d || es.any fun e => PW.eqv e d)
    rw [h2, eqV_eqv h.1 fd r rx]
abbrev rInA (K : PySem.W.Frag) : R2 := fun x y H Q => rIn K false x y H Q ∨ ∃ (c : Nat) (z : Str), x = .str ⟨#[c]⟩ ∧ y = .str z ∧ Q (.bl (decide (c ∈ z.cps.toList))) H
abbrev rNinA (K : PySem.W.Frag) : R2 := fun x y H Q => rIn K true x y H Q ∨ ∃ (c : Nat) (z : Str), x = .str ⟨#[c]⟩ ∧ y = .str z ∧ Q (.bl (!decide (c ∈ z.cps.toList))) H
theorem mk1 {x : Str} {c : Nat} (h : cpl x = [c]) : x = ⟨#[c]⟩ := cpl_inj (by rw [h]; rfl)
theorem l_in : L2k S PW.fIn (rInA S.K) := fun z G ρ σ H x y d e q Q E hx hy hf k => by
  cases e <;> first | exact hf.elim | skip
  · cases d <;> first | exact hf.elim | skip
    rename_i t s
    cases s with
    | nil => exact hf.elim
    | cons c s => cases s with
      | cons => exact hf.elim
      | nil =>
        obtain ⟨x', rfl, e1⟩ := hx.str_of
        obtain ⟨y', rfl, rfl⟩ := hy.str_of
        refine .inr ⟨c, y', by rw [mk1 e1], rfl, k _ H G _ E (Same.refl G) (.bl _) hf⟩
  · obtain ⟨a, xs, rfl, ha, ra⟩ := hy.tup_of
    obtain ⟨f, rx⟩ := flat_look hf.1.1 hx
    obtain ⟨h1, h2⟩ := any_eqv hf.1.1 rx ra hf.1.2
    refine .inl ⟨a, xs, rfl, .inr (Same.seqT E.same ha), f, h1, ?_⟩
    rw [if_neg Bool.false_ne_true, h2]
    exact k _ H G _ E (Same.refl G) (.bl _) hf.2
  · obtain ⟨a, xs, rfl, ha, ra⟩ := hy.lst_of E.same
    obtain ⟨f, rx⟩ := flat_look hf.1.1 hx
    obtain ⟨h1, h2⟩ := any_eqv hf.1.1 rx ra hf.1.2
    refine .inl ⟨a, xs, rfl, .inl (SqL.of ha), f, h1, ?_⟩
    rw [if_neg Bool.false_ne_true, h2]
    exact k _ H G _ E (Same.refl G) (.bl _) hf.2
theorem l_nin : L2k S PW.fNotIn (rNinA S.K) := fun z G ρ σ H x y d e q Q E hx hy hf k => by
  cases e <;> first | exact hf.elim | skip
  · cases d <;> first | exact hf.elim | skip
    rename_i t s
    cases s with
    | nil => exact hf.elim
    | cons c s => cases s with
      | cons => exact hf.elim
      | nil =>
        obtain ⟨x', rfl, e1⟩ := hx.str_of
        obtain ⟨y', rfl, rfl⟩ := hy.str_of
        refine .inr ⟨c, y', by rw [mk1 e1], rfl, k _ H G _ E (Same.refl G) (.bl _) hf⟩
  · obtain ⟨a, xs, rfl, ha, ra⟩ := hy.tup_of
    obtain ⟨f, rx⟩ := flat_look hf.1.1 hx
    obtain ⟨h1, h2⟩ := any_eqv hf.1.1 rx ra hf.1.2
    refine .inl ⟨a, xs, rfl, .inr (Same.seqT E.same ha), f, h1, ?_⟩
    rw [if_pos rfl, h2]
    exact k _ H G _ E (Same.refl G) (.bl _) hf.2
  · obtain ⟨a, xs, rfl, ha, ra⟩ := hy.lst_of E.same
    obtain ⟨f, rx⟩ := flat_look hf.1.1 hx
    obtain ⟨h1, h2⟩ := any_eqv hf.1.1 rx ra hf.1.2
    refine .inl ⟨a, xs, rfl, .inl (SqL.of ha), f, h1, ?_⟩
    rw [if_pos rfl, h2]
    exact k _ H G _ E (Same.refl G) (.bl _) hf.2
/-! ### places, slices -/
theorem ixN_eq (n : Nat) (i : Int) : L2.ixN n i = PW.ixN n i := rfl
theorem atI_rep {G : Hp} {xs : List V} {ds : List PW.D} {i : Int} {d : PW.D} (r : RepL S G xs ds) (h : PW.atI ds i = some d) : ∃ v, L2.atI xs i = some v ∧ Rep S G v d := by
  unfold PW.atI at h
  unfold L2.atI
  rw [ixN_eq, r.len]
  cases e : PW.ixN ds.length i with
  | none => rw [e] at h; cases h
  | some j => rw [e] at h; exact r.get h
theorem l_ix : L2k S PW.fIx (rIx S.K) := fun z G ρ σ H x y d e q Q E hx hy hf k => by
  cases d <;> cases e <;> first | exact hf.elim | skip
  · obtain ⟨x', rfl, rfl⟩ := hx.str_of
    cases hy.int_of
    rename_i i
    have h2 := hf.2
    cases ea : PW.atI (cpl x') i with
    | none => rw [ea] at h2; exact h2.elim
    | some c =>
      rw [ea] at h2
      refine .inr (.inr ⟨x', i, c, rfl, rfl, by rw [cpl_len, ← line_eq]; exact hf.1, ea, k _ H G _ E (Same.refl G) ?_ h2⟩)
      exact (Rep.str (S := S) (G := G) (⟨#[c]⟩ : Str) : Rep S G (.str ⟨#[c]⟩) (.str (cpl ⟨#[c]⟩)))
  · obtain ⟨a, xs, rfl, ha, ra⟩ := hx.tup_of
    cases hy.int_of
    rename_i ds i
    have h2 : (match PW.atI ds i with | some d => q d | none => False) := hf
    cases ea : PW.atI ds i with
    | none => rw [ea] at h2; exact h2.elim
    | some d' =>
      rw [ea] at h2
      obtain ⟨v, e1, rv⟩ := atI_rep ra ea
      exact .inr (.inl ⟨a, xs, i, v, rfl, rfl, Same.seqT E.same ha, e1, k _ H G _ E (Same.refl G) rv h2⟩)
  · obtain ⟨a, xs, rfl, ha, ra⟩ := hx.lst_of E.same
    cases hy.int_of
    rename_i ds i
    have h2 : (match PW.atI ds i with | some d => q d | none => False) := hf
    cases ea : PW.atI ds i with
    | none => rw [ea] at h2; exact h2.elim
    | some d' =>
      rw [ea] at h2
      obtain ⟨v, e1, rv⟩ := atI_rep ra ea
      exact .inl ⟨a, xs, i, v, rfl, rfl, SqL.of ha, e1, k _ H G _ E (Same.refl G) rv h2⟩
end
end PS
end

section
set_option Elab.async false
set_option linter.all false
set_option maxRecDepth 100000
set_option maxHeartbeats 4000000
/-! PS4: the rules for expressions. -/
namespace PS
open PySem PySem.Spec L2
open PyProof.Rows hiding St
section
variable {S : Stat} {X : Cx} {z : Z} {ex : PW.XC} {a b c e : Expr} {wa wb wc : PW.WE} {ra rb : PW.WR} {pos : Pos}
/-! ### operators -/
theorem se_op {op : Operator} {f : PW.F2} {r : R2} (ho : OpR X (binaryOp op) r) (l : L2k S f r) (ha : SE S z ex X a wa) (hb : SE S z ex X b wb) : SE S z ex X (.BinOp a op b pos) (PW.wBin f wa wb) :=
  pe_imp (pe_op ho ha hb) fun _ _ _ => tBin l
theorem op_add3 : OpR X (binaryOp .Add) (rAdd3 X.K) := op_add.or (op_add_str.or op_catA)
theorem se_add (hK : X.K = S.K := by rfl) (ha : SE S z ex X a wa) (hb : SE S z ex X b wb) : SE S z ex X (.BinOp a .Add b pos) (PW.wBin PW.fAdd wa wb) := se_op (r := rAdd3 S.K) (hK ▸ op_add3) l_add ha hb
theorem se_sub (ha : SE S z ex X a wa) (hb : SE S z ex X b wb) : SE S z ex X (.BinOp a .Sub b pos) (PW.wBin PW.fSub wa wb) := se_op op_sub l_sub ha hb
theorem se_fdiv (ha : SE S z ex X a wa) (hb : SE S z ex X b wb) : SE S z ex X (.BinOp a .FloorDiv b pos) (PW.wBin PW.fFdiv wa wb) := se_op op_fdiv l_fdiv ha hb
theorem se_mod (ha : SE S z ex X a wa) (hb : SE S z ex X b wb) : SE S z ex X (.BinOp a .Mod b pos) (PW.wBin PW.fMod wa wb) := se_op op_mod l_mod ha hb
theorem se_pow (ha : SE S z ex X a wa) (hb : SE S z ex X b wb) : SE S z ex X (.BinOp a .Pow b pos) (PW.wBin PW.fPow wa wb) := se_op op_pow l_pow ha hb
theorem se_shl (ha : SE S z ex X a wa) (hb : SE S z ex X b wb) : SE S z ex X (.BinOp a .LShift b pos) (PW.wBin PW.fShl wa wb) := se_op op_shl l_shl ha hb
theorem se_shr (ha : SE S z ex X a wa) (hb : SE S z ex X b wb) : SE S z ex X (.BinOp a .RShift b pos) (PW.wBin PW.fShr wa wb) := se_op op_shr l_shr ha hb
theorem se_band (ha : SE S z ex X a wa) (hb : SE S z ex X b wb) : SE S z ex X (.BinOp a .BitAnd b pos) (PW.wBin PW.fAnd wa wb) := se_op op_and l_and ha hb
theorem se_bor (ha : SE S z ex X a wa) (hb : SE S z ex X b wb) : SE S z ex X (.BinOp a .BitOr b pos) (PW.wBin PW.fOr wa wb) := se_op op_or l_or ha hb
theorem se_bxor (ha : SE S z ex X a wa) (hb : SE S z ex X b wb) : SE S z ex X (.BinOp a .BitXor b pos) (PW.wBin PW.fXor wa wb) := se_op op_xor l_xor ha hb
/-- text * int -/
theorem repL_rep {α : Type} (l : List α) : ∀ n : Nat, PW.repL l n = (List.replicate n l).flatten
  | 0 => rfl
  | n + 1 => by rw [PW.repL, repL_rep l n, List.replicate_succ, List.flatten_cons]
theorem fold_cps (x : Array Nat) : ∀ (n : Nat) (acc : Array Nat), (List.foldl (fun a b => a ++ b) acc (List.replicate n x)).toList = acc.toList ++ PW.repL x.toList n
  | 0, acc => by simp [PW.repL]
  | n + 1, acc => by
    rw [List.replicate_succ, List.foldl_cons, fold_cps x n, PW.repL]
    simp
theorem op_mul_str : OpR X (binaryOp .Mult) rStrMul := by
  intro pins s σ H x y v u Q I rx ry h
  obtain ⟨i, n, rfl, rfl, h1, h2, h3, q⟩ := h
  obtain ⟨t, rfl⟩ := rx
  obtain ⟨t', rfl⟩ := ry
  have hr : (decide (n < -(2 ^ 63 : Int)) || decide (n ≥ 2 ^ 63)) = false := by
    rw [decide_eq_false (by omega), decide_eq_false (by omega)]; rfl
  refine P.mul_str hr (fun h4 _ => ?_) (fun h4 _ => ?_) ?_
  · have hz := sizeLine_eq
    have h5 : (0 : Int) < n := by omega
    intro hc
    have e : ((i.length * n.toNat : Nat) : Int) = (i.length : Int) * n := by
      rw [Int.natCast_mul, Int.toNat_of_nonneg (by omega)]
    have h6 : (i.length : Int) * n ≤ 16777216 := by rw [← e]; omega
    have h7 : (i.length : Int) ≤ 16777216 := by
      have : (i.length : Int) * 1 ≤ (i.length : Int) * n := Int.mul_le_mul_of_nonneg_left (by omega) (by omega)
      omega
    have h8 : (16777216 : Int) ≤ (2 ^ 63 - 1) / n := by
      rw [Int.le_ediv_iff_mul_le h5]
      have : (16777216 : Int) * n ≤ 16777216 * 16777216 := Int.mul_le_mul_of_nonneg_left h2 (by omega)
      omega
    omega
  · show decide (i.length * n.toNat > sizeLine) = false
    exact decide_eq_false (by omega)
  · have fin : ∀ (w : Str), cpl w = PW.repL (cpl i) n.toNat → ∀ t2 tk, EP X pins σ Q (.str w t2) { s with toks := tk } := fun w e t2 tk => ⟨.str w, H, I.tok _, ⟨_, rfl⟩, by
      have : w = mkS (PW.repL (cpl i) n.toNat) := cpl_inj (by rw [e, cpl_mk])
      rw [this]; exact q⟩
    by_cases h4 : n < 1
    · rw [if_pos h4]
      exact ⟨by decide, fin _ (by rw [show n.toNat = 0 by omega]; rfl) _ _⟩
    · rw [if_neg h4]
      by_cases h5 : (n == 1 || i.length == 0) = true
      · rw [if_pos h5]
        refine fin i ?_ t s.toks
        rcases Bool.or_eq_true_iff.mp h5 with h6 | h6
        · have : n = 1 := by simpa using h6
          subst this
          show cpl i = cpl i ++ []
          rw [List.append_nil]
        · have h7 : cpl i = [] := by
            have : (cpl i).length = 0 := by rw [← cpl_len]; simpa using h6
            exact List.length_eq_zero_iff.mp this
          rw [h7, repL_rep]
          simp
      · rw [if_neg h5]
        refine ⟨?_, fin _ ?_ _ _⟩
        · rw [cpl_len]
          have e1 : cpl (⟨List.foldl (fun a b => a ++ b) #[] (List.replicate n.toNat i.cps)⟩ : Str) = PW.repL (cpl i) n.toNat := by
            show (List.foldl (fun a b => a ++ b) #[] (List.replicate n.toNat i.cps)).toList = _
            rw [fold_cps]; simp [cpl]
          have e2 : (PW.repL (cpl i) n.toNat).length ≤ sizeLine := by
            rw [repL_rep, PyProof.Rows.lm_len_rep_flat, ← cpl_len, Nat.mul_comm]; exact h3
          rw [← e1] at e2; exact e2
        · show (List.foldl (fun a b => a ++ b) #[] (List.replicate n.toNat i.cps)).toList = _
          rw [fold_cps]; simp [cpl]
theorem l_strMul : L2k S PW.fMul (fun x y H Q => rI CMul (fun i j => .int (i * j)) x y H Q ∨ rStrMul x y H Q) := fun z G ρ σ H x y d e q Q E hx hy hf k => by
  cases d <;> cases e <;> first | exact hf.elim | skip
  · exact .inl ⟨_, _, hx.int_of, hy.int_of, hf.1, k _ H G _ E (Same.refl G) (.int _) hf.2⟩
  · obtain ⟨x', rfl, rfl⟩ := hx.str_of
    cases hy.int_of
    rename_i n
    obtain ⟨⟨⟨h1, h2⟩, h3⟩, h4⟩ := hf
    refine .inr ⟨_, _, rfl, rfl, h1, h2, by rw [cpl_len, ← line_eq]; exact h3, k _ H G _ E (Same.refl G) ?_ h4⟩
    have := Rep.str (S := S) (G := G) (mkS (PW.repL (cpl x') n.toNat))
    rwa [cpl_mk] at this
theorem se_mul (ha : SE S z ex X a wa) (hb : SE S z ex X b wb) : SE S z ex X (.BinOp a .Mult b pos) (PW.wBin PW.fMul wa wb) := se_op (op_mul.or op_mul_str) l_strMul ha hb
theorem l_neg : L1 S PW.fNeg (rU fun i => .int (-i)) := fun z G ρ σ H x d q Q E hx hf k => by
  cases d <;> first | exact hf.elim | skip
  exact ⟨_, hx.int_of, k _ H G _ E (Same.refl G) (.int _) hf⟩
theorem se_neg (ha : SE S z ex X a wa) : SE S z ex X (.UnaryOp .USub a pos) (PW.wUn PW.fNeg wa) := se_un1 l_neg ha fun t ht => pe_un un_neg ht
/-- list + list, list * int -/
theorem n_cat : N2 S PW.nCat rCat := fun z G ρ σ H x y d e q Q E hx hy hf k => by
  cases d <;> cases e <;> first | exact hf.elim | skip
  obtain ⟨a, xs, rfl, ha, ra⟩ := hx.lst_of E.same
  obtain ⟨b, ys, rfl, hb, rb⟩ := hy.lst_of E.same
  refine ⟨a, b, xs, ys, rfl, rfl, ha, hb, by rw [ra.len, rb.len, ← line_eq]; exact hf.1, fun p np => ?_⟩
  obtain ⟨E', N⟩ := E.newN np (Own.lst (a := p) (ra.append rb))
  exact k p _ _ E' N hf.2
theorem RepL.rep {G : Hp} {xs : List V} {ds : List PW.D} (h : RepL S G xs ds) : ∀ n : Nat, RepL S G (List.replicate n xs).flatten (PW.repL ds n)
  | 0 => .nil
  | n + 1 => by rw [List.replicate_succ, List.flatten_cons, PW.repL]; exact h.append (RepL.rep h n)
theorem n_rep : N2 S PW.nRep rRep := fun z G ρ σ H x y d e q Q E hx hy hf k => by
  cases d <;> cases e <;> first | exact hf.elim | skip
  obtain ⟨a, xs, rfl, ha, ra⟩ := hx.lst_of E.same
  obtain ⟨⟨⟨h1, h2⟩, h3⟩, h4⟩ := hf
  have e1 : (PW.line : Int) = 16777216 := rfl
  refine ⟨a, _, xs, rfl, hy.int_of, ha, by omega, by omega, by rw [ra.len, ← line_eq]; exact h3, fun p np => ?_⟩
  obtain ⟨E', N⟩ := E.newN np (Own.lst (a := p) (ra.rep _))
  exact k p _ _ E' N h4
theorem ne_cat (ha : RE S z ex X a ra) (hb : RE S z ex X b rb) : NE S z ex X (.BinOp a .Add b pos) (PW.wLkB PW.nCat ra rb) := pe_imp (pe_op op_cat ha hb) fun _ _ _ => nBin n_cat
theorem ne_rep (ha : RE S z ex X a ra) (hb : RE S z ex X b rb) : NE S z ex X (.BinOp a .Mult b pos) (PW.wLkB PW.nRep ra rb) := pe_imp (pe_op op_rep ha hb) fun _ _ _ => nBin n_rep
/-! ### comparisons -/
theorem se_cmp {op : CmpOp} {f : PW.F2} {r : R2} (ho : OpR X (compareOp op) r) (l : L2k S f r) (ha : RE S z ex X a ra) (hb : RE S z ex X b rb) (hm : behindInMarks op b = false) : SE S z ex X (.Compare a [op] [b] pos) (PW.wLkB f ra rb) :=
  pe_imp (pe_cmpR ho ha hb hm) fun _ _ _ => tLkB l
theorem ttest {w : PW.WE} {σ : St} {H : Hp} {Q : Bool → Hp → Prop} (h : TTOf S z ex (PW.tB w) σ H Q) : TOf S z ex w σ H (fun x H1 => ∃ k, x = .bl k ∧ Q k H1) := by
  obtain ⟨G, ρ, q, E, h1, k⟩ := h
  refine ⟨G, ρ, _, E, h1, fun v H' G' ρ' d E' sg r hq => ?_⟩
  cases d <;> first | exact hq.elim | skip
  exact ⟨_, r.bl_of, k _ H' G' ρ' E' sg hq⟩
/-- a comparison, a bool as a test -/
theorem st_cmp {op : CmpOp} {f : PW.F2} {r : R2} (ho : OpR X (compareOp op) r) (l : L2k S f r) (ha : RE S z ex X a ra) (hb : RE S z ex X b rb) (hm : behindInMarks op b = false) : ST S z ex X (.Compare a [op] [b] pos) (PW.tB (PW.wLkB f ra rb)) :=
  pt_imp (pt_cmpR ho ha hb hm) fun _ _ _ h => tLkB l (ttest h)
theorem st_val (h : SE S z ex X e wa) (he : ∀ whole, isTrue e X.env whole = (do let v ← whole; standAt e.pos; holding [v] (truthy v)) := by intro _; rfl) : ST S z ex X e (PW.tB wa) := pt_imp (pt_val h he) fun _ _ _ h => ttest h
theorem truV_look {G H : Hp} {v : V} {d : PW.D} {k : Bool} (sm : Same G H) (l : Look S G H v d) (h : PW.truth d = some k) : TruV S.K v H k := by
  cases d with
  | non =>
    rcases l with r | ⟨a, o, rfl, _, r⟩
    · cases r; cases h; rfl
    · cases r
  | bl b => cases l.bl_of; cases h; rfl
  | int i => cases l.int_of; cases h; rfl
  | str s =>
    obtain ⟨x, rfl, rfl⟩ := l.str_of
    simp only [PW.truth] at h
    split at h
    · rename_i hl
      refine ⟨by rw [cpl_len, ← line_eq]; exact hl, ?_⟩
      cases h
      rw [cpl_len]
      cases cpl x with
      | nil => rfl
      | cons c t =>
        simp only [List.isEmpty_cons, Bool.not_false, List.length_cons]
        have : (((t.length + 1 : Nat) : Int) != 0) = true := by
          rw [bne_iff_ne]; omega
        exact this.symm
    · cases h
  | tup ds =>
    obtain ⟨a, xs, rfl, ha, ra⟩ := l.tup_of
    refine .inr (.inl ⟨xs, Same.seqT sm ha, ?_⟩)
    cases h
    cases ra <;> rfl
  | lst ds =>
    obtain ⟨a, xs, rfl, ha, ra⟩ := l.lst_of sm
    refine .inl ⟨xs, SqL.of ha, ?_⟩
    cases h
    cases ra <;> rfl
  | dic _ => cases h
  | dit _ => cases h
  | obj _ _ => cases h
  | scr _ => cases h
/-- a value of any kind as a test -/
theorem st_tr (hK : X.K = S.K := by rfl) (h : RE S z ex X e ra) (he : ∀ whole, isTrue e X.env whole = (do let v ← whole; standAt e.pos; holding [v] (truthy v)) := by intro _; rfl) : ST S z ex X e (PW.tTr ra) := pt_imp (pt_truth h he) fun σ H Q ⟨G, ρ, q, E, h1, k⟩ =>
  ⟨G, ρ, _, E, h1, fun v H' G' ρ' p E' sg pk hq => by
    obtain ⟨d, l, hq⟩ := pk G' ρ' H' _ E' (Same.refl _) hq
    cases ed : PW.truth d with
    | none => rw [ed] at hq; exact hq.elim
    | some b => rw [ed] at hq; exact ⟨b, hK ▸ truV_look E'.same l ed, k b H' G' ρ' E' sg hq⟩⟩
section
variable {k : Nat} (hr : Room k X.A)
theorem se_eq (hr : Room k X.A) (hK : X.K = S.K := by rfl) (ha : RE S z ex X a ra) (hb : RE S z ex X b rb) : SE S z ex X (.Compare a [.Eq] [b] pos) (PW.wLkB PW.fEq ra rb) := se_cmp (r := rEqD S.K) (hK ▸ op_eqD hr.units) l_eq ha hb (nomark _)
theorem se_ne (hr : Room k X.A) (hK : X.K = S.K := by rfl) (ha : RE S z ex X a ra) (hb : RE S z ex X b rb) : SE S z ex X (.Compare a [.NotEq] [b] pos) (PW.wLkB PW.fNe ra rb) := se_cmp (r := rNeD S.K) (hK ▸ op_neD hr.units) l_ne ha hb (nomark _)
theorem st_eq (hr : Room k X.A) (hK : X.K = S.K := by rfl) (ha : RE S z ex X a ra) (hb : RE S z ex X b rb) : ST S z ex X (.Compare a [.Eq] [b] pos) (PW.tB (PW.wLkB PW.fEq ra rb)) := st_cmp (r := rEqD S.K) (hK ▸ op_eqD hr.units) l_eq ha hb (nomark _)
theorem st_ne (hr : Room k X.A) (hK : X.K = S.K := by rfl) (ha : RE S z ex X a ra) (hb : RE S z ex X b rb) : ST S z ex X (.Compare a [.NotEq] [b] pos) (PW.tB (PW.wLkB PW.fNe ra rb)) := st_cmp (r := rNeD S.K) (hK ▸ op_neD hr.units) l_ne ha hb (nomark _)
end
theorem o_lt : OpR X (compareOp .Lt) (fun x y H Q => rI0 (fun i j => .bl (decide (i < j))) x y H Q ∨ ∃ i j, x = .str i ∧ y = .str j ∧ Q (.bl (decide (i.cps.toList < j.cps.toList))) H) := op_lt.or op_lt_str
theorem o_le : OpR X (compareOp .LtE) (fun x y H Q => rI0 (fun i j => .bl (decide (i ≤ j))) x y H Q ∨ ∃ i j, x = .str i ∧ y = .str j ∧ Q (.bl (!decide (j.cps.toList < i.cps.toList))) H) := op_le.or op_le_str
theorem o_gt : OpR X (compareOp .Gt) (fun x y H Q => rI0 (fun i j => .bl (decide (j < i))) x y H Q ∨ ∃ i j, x = .str i ∧ y = .str j ∧ Q (.bl (decide (j.cps.toList < i.cps.toList))) H) := op_gt.or op_gt_str
theorem o_ge : OpR X (compareOp .GtE) (fun x y H Q => rI0 (fun i j => .bl (decide (j ≤ i))) x y H Q ∨ ∃ i j, x = .str i ∧ y = .str j ∧ Q (.bl (!decide (i.cps.toList < j.cps.toList))) H) := op_ge.or op_ge_str
theorem se_lt (ha : RE S z ex X a ra) (hb : RE S z ex X b rb) : SE S z ex X (.Compare a [.Lt] [b] pos) (PW.wLkB PW.fLt ra rb) := se_cmp o_lt l_lt ha hb (nomark _)
theorem se_le (ha : RE S z ex X a ra) (hb : RE S z ex X b rb) : SE S z ex X (.Compare a [.LtE] [b] pos) (PW.wLkB PW.fLe ra rb) := se_cmp o_le l_le ha hb (nomark _)
theorem se_gt (ha : RE S z ex X a ra) (hb : RE S z ex X b rb) : SE S z ex X (.Compare a [.Gt] [b] pos) (PW.wLkB PW.fGt ra rb) := se_cmp o_gt l_gt ha hb (nomark _)
theorem se_ge (ha : RE S z ex X a ra) (hb : RE S z ex X b rb) : SE S z ex X (.Compare a [.GtE] [b] pos) (PW.wLkB PW.fGe ra rb) := se_cmp o_ge l_ge ha hb (nomark _)
theorem st_lt (ha : RE S z ex X a ra) (hb : RE S z ex X b rb) : ST S z ex X (.Compare a [.Lt] [b] pos) (PW.tB (PW.wLkB PW.fLt ra rb)) := st_cmp o_lt l_lt ha hb (nomark _)
theorem st_le (ha : RE S z ex X a ra) (hb : RE S z ex X b rb) : ST S z ex X (.Compare a [.LtE] [b] pos) (PW.tB (PW.wLkB PW.fLe ra rb)) := st_cmp o_le l_le ha hb (nomark _)
theorem st_gt (ha : RE S z ex X a ra) (hb : RE S z ex X b rb) : ST S z ex X (.Compare a [.Gt] [b] pos) (PW.tB (PW.wLkB PW.fGt ra rb)) := st_cmp o_gt l_gt ha hb (nomark _)
theorem st_ge (ha : RE S z ex X a ra) (hb : RE S z ex X b rb) : ST S z ex X (.Compare a [.GtE] [b] pos) (PW.tB (PW.wLkB PW.fGe ra rb)) := st_cmp o_ge l_ge ha hb (nomark _)
theorem o_in : OpR X (compareOp .In) (rInA X.K) := op_in_seq.or op_in_sign
theorem o_nin : OpR X (compareOp .NotIn) (rNinA X.K) := op_notIn_seq.or op_notIn_sign
theorem se_in (hK : X.K = S.K := by rfl) (ha : RE S z ex X a ra) (hb : RE S z ex X b rb) (hm : behindInMarks .In b = false := by rfl) : SE S z ex X (.Compare a [.In] [b] pos) (PW.wLkB PW.fIn ra rb) := se_cmp (r := rInA S.K) (hK ▸ o_in) l_in ha hb hm
theorem se_nin (hK : X.K = S.K := by rfl) (ha : RE S z ex X a ra) (hb : RE S z ex X b rb) (hm : behindInMarks .NotIn b = false := by rfl) : SE S z ex X (.Compare a [.NotIn] [b] pos) (PW.wLkB PW.fNotIn ra rb) := se_cmp (r := rNinA S.K) (hK ▸ o_nin) l_nin ha hb hm
theorem st_in (hK : X.K = S.K := by rfl) (ha : RE S z ex X a ra) (hb : RE S z ex X b rb) (hm : behindInMarks .In b = false := by rfl) : ST S z ex X (.Compare a [.In] [b] pos) (PW.tB (PW.wLkB PW.fIn ra rb)) := st_cmp (r := rInA S.K) (hK ▸ o_in) l_in ha hb hm
theorem st_nin (hK : X.K = S.K := by rfl) (ha : RE S z ex X a ra) (hb : RE S z ex X b rb) (hm : behindInMarks .NotIn b = false := by rfl) : ST S z ex X (.Compare a [.NotIn] [b] pos) (PW.tB (PW.wLkB PW.fNotIn ra rb)) := st_cmp (r := rNinA S.K) (hK ▸ o_nin) l_nin ha hb hm
/-- x is None -/
theorem look_non {G H : Hp} {v : V} {d : PW.D} (l : Look S G H v d) : decide (v = V.non) = PW.isNon d := by
  rcases l with r | ⟨a, o, rfl, _, r⟩
  · cases r <;> rfl
  · cases r <;> rfl
theorem l_isN : L1 S PW.fIsNone (fun x H Q => Q (.bl (decide (x = .non))) H) := fun z G ρ σ H x d q Q E hx hf k => by
  show Q (.bl (decide (x = .non))) H
  rw [look_non hx]; exact k _ H G _ E (Same.refl G) (.bl _) hf
theorem l_isntN : L1 S PW.fIsntNone (fun x H Q => Q (.bl (!decide (x = .non))) H) := fun z G ρ σ H x d q Q E hx hf k => by
  show Q (.bl (!decide (x = .non))) H
  rw [look_non hx]; exact k _ H G _ E (Same.refl G) (.bl _) hf
theorem pe_isN {ta : TE} {j p'} (h : PE X a ta) : PE X (.Compare a [.Is] [.Constant .none j p'] pos) (fun σ H Q => ta σ H fun x H1 => Q (.bl (decide (x = .non))) H1) := pe_cmp (pc_isN h) rfl
theorem pe_isntN {ta : TE} {j p'} (h : PE X a ta) : PE X (.Compare a [.IsNot] [.Constant .none j p'] pos) (fun σ H Q => ta σ H fun x H1 => Q (.bl (!decide (x = .non))) H1) := pe_cmp (pc_notN h) rfl
theorem se_isN {j p'} (ha : RE S z ex X a ra) : SE S z ex X (.Compare a [.Is] [.Constant .none j p'] pos) (PW.wLk PW.fIsNone ra) := se_lk l_isN ha fun t ht => pe_isN ht
theorem se_isntN {j p'} (ha : RE S z ex X a ra) : SE S z ex X (.Compare a [.IsNot] [.Constant .none j p'] pos) (PW.wLk PW.fIsntNone ra) := se_lk l_isntN ha fun t ht => pe_isntN ht
theorem st_isN {j p'} (ha : RE S z ex X a ra) : ST S z ex X (.Compare a [.Is] [.Constant .none j p'] pos) (PW.tB (PW.wLk PW.fIsNone ra)) := pt_imp (pt_cmp (pc_isN ha) rfl) fun σ H Q h => by
  obtain ⟨G, ρ, q, E, w, k⟩ := ttest h
  exact ⟨G, ρ, _, E, w, fun v H' G' ρ' p E' sg pk hp => by
    obtain ⟨d, lk, hf⟩ := pk G' ρ' H' _ E' (Same.refl _) hp
    exact l_isN z G' ρ' σ H' v d _ (fun x H1 => ∃ k, x = .bl k ∧ Q k H1) E' lk hf fun v2 H2 G2 d2 E2 sg2 r2 q2 => k v2 H2 G2 ρ' d2 E2 (sg.trans sg2) r2 q2⟩
theorem st_isntN {j p'} (ha : RE S z ex X a ra) : ST S z ex X (.Compare a [.IsNot] [.Constant .none j p'] pos) (PW.tB (PW.wLk PW.fIsntNone ra)) := pt_imp (pt_cmp (pc_notN ha) rfl) fun σ H Q h => by
  obtain ⟨G, ρ, q, E, w, k⟩ := ttest h
  exact ⟨G, ρ, _, E, w, fun v H' G' ρ' p E' sg pk hp => by
    obtain ⟨d, lk, hf⟩ := pk G' ρ' H' _ E' (Same.refl _) hp
    exact l_isntN z G' ρ' σ H' v d _ (fun x H1 => ∃ k, x = .bl k ∧ Q k H1) E' lk hf fun v2 H2 G2 d2 E2 sg2 r2 q2 => k v2 H2 G2 ρ' d2 E2 (sg.trans sg2) r2 q2⟩
/-! ### places, slices -/
theorem se_ix (hK : X.K = S.K := by rfl) (ha : RE S z ex X a ra) (hb : SE S z ex X b wb) (hs : PlainIx b := by exact fun _ _ => rfl) : SE S z ex X (.Subscript a b pos) (PW.wLk2 PW.fIx ra wb) := pe_imp (pe_ix (r := rIx S.K) (hK ▸ ix_seq) ha hb hs) fun _ _ _ => tLk2 l_ix
theorem cutV_rep {G : Hp} {xs : List V} {ds : List PW.D} (r : RepL S G xs ds) (lo hi : Option Int) : RepL S G (cutV xs lo hi) (PW.cut ds lo hi) := by
  unfold cutV PW.cut
  have e : ∀ n d o, HT.sIx n d o = PW.sIx n d o := fun n d o => by cases o <;> rfl
  rw [e, e, r.len]
  exact (r.drop _).take _
abbrev PWPart := Option PW.WE
def POf (S : Stat) (z : Z) (ex : PW.XC) (p : Option PW.WE) : TO := fun σ H Q => ∃ G ρ q, EnvOk S z G ρ σ H ∧ PW.wPart p ex ρ q ∧
  ∀ i H' G' ρ', EnvOk S z G' ρ' σ H' → Same G G' → q i ρ' → Q i H'
theorem po_imp {e : Option Expr} {t t' : TO} (h : PO X e t) (i : ∀ σ H Q, t' σ H Q → t σ H Q) : PO X e t' := ⟨fun pins s σ H Q I q => h.run pins s σ H Q I (i σ H Q q)⟩
theorem so_none : PO X none (POf S z ex none) := po_imp po_none fun σ H Q ⟨G, ρ, q, E, w, k⟩ => k none H G ρ E (Same.refl G) w
theorem so_some (h : SE S z ex X e wa) : PO X (some e) (POf S z ex (some wa)) := po_imp (po_some h) fun σ H Q ⟨G, ρ, q, E, w, k⟩ =>
  ⟨G, ρ, _, E, w, fun v H' G' ρ' d E' sg r hq => by
    cases d <;> first | exact hq.elim | exact ⟨_, r.int_of, k _ H' G' ρ' E' sg hq⟩⟩
/-- what a slice asks -/
theorem tSlOf {r : V → Option Int → Option Int → Hp → VK → Prop} {f : PW.D → Option Int → Option Int → (PW.D → Prop) → Prop} {pl ph : Option PW.WE}
    (l : ∀ (z : Z) (G : Hp) (ρ : PW.Env) (σ : St) (H : Hp) (x : V) (d : PW.D) (lo hi : Option Int) (q : PW.D → Prop) (Q : VK), EnvOk S z G ρ σ H → Look S G H x d → f d lo hi q → (∀ v H' G' d, EnvOk S z G' ρ σ H' → Same G G' → Rep S G' v d → q d → Q v H') → r x lo hi H Q)
    {σ : St} {H : Hp} {Q : VK} (h : TOf S z ex (fun ex ρ Q => ra ex ρ fun p ρ1 => PW.wPart pl ex ρ1 fun l ρ2 => PW.wPart ph ex ρ2 fun h ρ3 => p ρ3 fun x => f x l h fun r => Q r ρ3) σ H Q) : tSl r (ROf S z ex ra) (POf S z ex pl) (POf S z ex ph) σ H Q := by
  obtain ⟨G, ρ, q, E, w, k⟩ := h
  exact ⟨G, ρ, _, E, w, fun x H1 G1 ρ1 p E1 sg1 pk w1 => ⟨G1, ρ1, _, E1, w1, fun i H2 G2 ρ2 E2 sg2 w2 => ⟨G2, ρ2, _, E2, w2, fun j H3 G3 ρ3 E3 sg3 hp => by
    obtain ⟨d, lk, hf⟩ := pk G3 ρ3 H3 _ E3 (sg2.trans sg3) hp
    exact l z G3 ρ3 σ H3 x d i j _ Q E3 lk hf fun v H4 G4 d4 E4 sg4 r4 q4 => k v H4 G4 ρ3 d4 E4 (((sg1.trans sg2).trans sg3).trans sg4) r4 q4⟩⟩⟩
/-- text[lo:hi] -/
theorem sl_strA : SlR X (fun x lo hi H Q => ∃ z : Str, x = .str z ∧ z.length ≤ sizeLine ∧ Q (.str (mkS (PW.cut (cpl z) lo hi))) H) := by
  intro pins s σ H x v vl vu lo hi sl Q I rx hs pl pu h
  obtain ⟨z, rfl, hz, q⟩ := h
  refine sl_str pins s σ H _ v vl vu lo hi sl Q I rx hs pl pu ⟨z, rfl, hz, ?_⟩
  have e : cutS z lo hi = mkS (PW.cut (cpl z) lo hi) := by
    apply cpl_inj
    rw [cpl_mk]
    unfold cutS PW.cut
    have e1 : ∀ n d o, HT.sIx n d o = PW.sIx n d o := fun n d o => by cases o <;> rfl
    rw [e1, e1, cpl_len]
    rfl
  rw [e]; exact q
theorem se_sl {lo hi : Option Expr} {pl ph : Option PW.WE} {p2 : Pos} (hK : X.K = S.K := by rfl) (ha : RE S z ex X a ra) (hl : PO X lo (POf S z ex pl)) (hh : PO X hi (POf S z ex ph)) : SE S z ex X (.Subscript a (.Slice lo hi none p2) pos) (PW.wSl ra pl ph) :=
  pe_imp (pe_slice (r := fun x lo hi H Q => rSlA S.K x lo hi H Q ∨ ∃ z : Str, x = .str z ∧ z.length ≤ sizeLine ∧ Q (.str (mkS (PW.cut (cpl z) lo hi))) H) (hK ▸ SlR.or sl_tupA sl_strA) ha hl hh) fun _ _ _ => tSlOf (f := PW.fSl) fun z G ρ σ H x d lo hi q Q E hx hf k => by
    cases d <;> first | exact hf.elim | skip
    · obtain ⟨x', rfl, rfl⟩ := hx.str_of
      refine .inr ⟨x', rfl, by rw [cpl_len, ← line_eq]; exact hf.1, k _ H G _ E (Same.refl G) ?_ hf.2⟩
      have := Rep.str (S := S) (G := G) (mkS (PW.cut (cpl x') lo hi))
      rwa [cpl_mk] at this
    · obtain ⟨a, xs, rfl, ha, ra⟩ := hx.tup_of
      refine .inl ⟨a, xs, rfl, Same.seqT E.same ha, fun hw => ?_, fun _ p np => ?_⟩
      · have e : cutV xs lo hi = xs := by
          unfold cutV
          rw [hw.1, hw.2, List.drop_zero, Nat.sub_zero, List.take_length]
        have hr := cutV_rep ra lo hi
        rw [e] at hr
        exact k _ H G _ E (Same.refl G) (.tup ha hr) hf
      · obtain ⟨E', sg⟩ := E.laid np (.tup (cutV xs lo hi))
        exact k _ _ _ _ E' sg (.tup (SqT.of upd_same) ((cutV_rep ra lo hi).mono sg)) hf
theorem nSlOf {r : V → Option Int → Option Int → Hp → VK → Prop} {f : PW.D → Option Int → Option Int → (PW.D → Prop) → Prop} {pl ph : Option PW.WE}
    (l : ∀ (z : Z) (G : Hp) (ρ : PW.Env) (σ : St) (H : Hp) (x : V) (d : PW.D) (lo hi : Option Int) (q : PW.D → Prop) (Q : VK), EnvOk S z G ρ σ H → Look S G H x d → f d lo hi q → (∀ a H' d, EnvOk S z G ρ σ H' → New S z G ρ σ H' a d → q d → Q (.ref a) H') → r x lo hi H Q)
    {σ : St} {H : Hp} {Q : VK} (h : NOf S z ex (fun ex ρ Q => ra ex ρ fun p ρ1 => PW.wPart pl ex ρ1 fun l ρ2 => PW.wPart ph ex ρ2 fun h ρ3 => p ρ3 fun x => f x l h fun r => Q r ρ3) σ H Q) : tSl r (ROf S z ex ra) (POf S z ex pl) (POf S z ex ph) σ H Q := by
  obtain ⟨G, ρ, q, E, w, k⟩ := h
  exact ⟨G, ρ, _, E, w, fun x H1 G1 ρ1 p E1 sg1 pk w1 => ⟨G1, ρ1, _, E1, w1, fun i H2 G2 ρ2 E2 sg2 w2 => ⟨G2, ρ2, _, E2, w2, fun j H3 G3 ρ3 E3 sg3 hp => by
    obtain ⟨d, lk, hf⟩ := pk G3 ρ3 H3 _ E3 (sg2.trans sg3) hp
    exact l z G3 ρ3 σ H3 x d i j _ Q E3 lk hf fun v H4 d4 E4 n4 q4 => k v H4 G3 ρ3 d4 E4 ((sg1.trans sg2).trans sg3) n4 q4⟩⟩⟩
theorem ne_sl {lo hi : Option Expr} {pl ph : Option PW.WE} {p2 : Pos} (hK : X.K = S.K := by rfl) (ha : RE S z ex X a ra) (hl : PO X lo (POf S z ex pl)) (hh : PO X hi (POf S z ex ph)) : NE S z ex X (.Subscript a (.Slice lo hi none p2) pos) (PW.wSlL ra pl ph) :=
  pe_imp (pe_slice (r := rSlL S.K) (hK ▸ sl_list) ha hl hh) fun _ _ _ => nSlOf (f := PW.nSl) fun z G ρ σ H x d lo hi q Q E hx hf k => by
    cases d <;> first | exact hf.elim | skip
    obtain ⟨a, xs, rfl, ha, ra⟩ := hx.lst_of E.same
    refine ⟨a, xs, rfl, SqL.of ha, fun p np => ?_⟩
    obtain ⟨E', N⟩ := E.newN np (Own.lst (a := p) (cutV_rep ra lo hi))
    exact k p _ _ E' N hf
end
end PS
end

section
set_option Elab.async false
set_option linter.all false
set_option maxRecDepth 100000
set_option maxHeartbeats 4000000
/-! PStr: list(a text). -/
namespace PS
open PySem PySem.Spec L2 PySem.Sem
open PyProof.Rows hiding St
section
variable {prog : Program} {w : World} {A : Around} {E : Value → Shared → Prop} {s : Shared}
theorem extend_str {R : Result → Shared → Prop} (hh : A.handled = none) (x : Str) (t : Tok) (S : Addr) (res : Value) (c₀ : Nat) (hS : s.heap.get? S = some { cls := .type "list", data := .seq #[] c₀ })
    (hR : ∀ s' acc' c', (∀ b o, b ≠ S → s.heap.get? b = some o → s'.heap.get? b = some o) → s'.gens = s.gens → s'.drawn = s.drawn → s'.os = s.os → s'.heap.get? S = some { cls := .type "list", dict := none, data := .seq acc' c', slots := #[] } → ItemsOf (SignAt x) acc' x.cps.size →
      R (.ok (.ret res)) s') (hn : x.cps.size ≤ sizeLine) :
    wpAny (model prog w) A.in1 (Builtin.List.listExtendWith (.ref S) (.str x t) res)
      (fun fin s' => match fin with | .done f => R (.ok f) s' | .again c' => c'.quiet = true ∧ codeAny (model prog w) A c' R s') (fun e s' => R (.error e) s') s := by
  unfold Builtin.List.listExtendWith
  refine wpAny_bind (wpAny_typeOf (T := "str") (v := .str x t) rfl ?_)
  have h1 : Builtin.List.listSameRef (.ref S) (.str x t) = false := rfl
  have h2 : (Value.type "str" == Value.type "list") = false := by decide
  have h3 : (Value.type "str" == Value.type "tuple") = false := by decide
  simp only [h1, h2, h3, Bool.or_false, Bool.false_eq_true, if_false]
  refine wpAny_bind (wpAny_pyIter_str fun o St W hst => ?_)
  refine wpAny_bind (wpAny_holding ?_)
  unfold Builtin.List.listLengthHint
  refine wpAny_bind (wpAny_specialOf (T := "str") (v := .str x t) rfl F.str_len ?_)
  wp_delta
  refine wpAny_bind (wpAny_isInstance (T := "str") (v := .str x t) (b := true) rfl (by rw [isSubtype_type]; kernel_rfl) ?_)
  show wpAny _ A.in1 (typeOf (Value.str x t) >>= _) _ _ _
  refine wpAny_bind (wpAny_typeOf (T := "str") (v := .str x t) rfl ?_)
  refine wpAny_pure ?_
  rw [if_neg (by decide)]
  have hSf : S ∉ [s.heap.objs.size] := fun hm => by rw [List.mem_singleton.mp hm] at hS; exact absurd (Heap.lt_size hS) (Nat.lt_irrefl _)
  have hS2 : (s.heap.push o).get? S = some { cls := .type "list", data := .seq ([] : List Value).toArray c₀ } := Heap.get?_push_of_some _ hS
  refine wpAny_pure ⟨plainId_quiet F.plain_extend_loop _, codeAny_extend_loopS (W A.in1 hh).toS hn _ hSf _ x.cps.size 0 _ _ _ rfl (Nat.zero_le _) hst hS2 (ItemsOf.nil _) fun s' acc' c' hm hS' hacc => ?_⟩
  exact hR s' acc' c' (fun b ob hb e => hm.heap b ob (fun hbm => by
    rcases List.mem_cons.mp hbm with h | h
    · exact hb h
    · rw [List.mem_singleton.mp h] at e; exact absurd (Heap.lt_size e) (Nat.lt_irrefl _)) (Heap.get?_push_of_some _ e)) hm.gens hm.drawn hm.os hS' hacc
theorem init_str {R : Result → Shared → Prop} (hh : A.handled = none) (x : Str) (t : Tok) (S : Addr) (hS : s.heap.get? S = some { cls := .type "list", data := .seq #[] })
    (hR : ∀ s' acc' c', (∀ b o, b ≠ S → s.heap.get? b = some o → s'.heap.get? b = some o) → s'.gens = s.gens → s'.drawn = s.drawn → s'.os = s.os → s'.heap.get? S = some { cls := .type "list", dict := none, data := .seq acc' c', slots := #[] } → ItemsOf (SignAt x) acc' x.cps.size →
      R (.ok (.ret .none)) s') (hn : x.cps.size ≤ sizeLine) :
    wpAny (model prog w) A.in1 (Builtin.«list.__init__» ⟨[.ref S, .str x t], []⟩)
      (fun fin s' => match fin with | .done f => R (.ok f) s' | .again c' => c'.quiet = true ∧ codeAny (model prog w) A c' R s') (fun e s' => R (.error e) s') s := by
  show wpAny _ _ (do let old ← Builtin.List.listItems (.ref S); Builtin.List.listUpdate (.ref S) (fun _ => #[]); letGo old.toList.reverse; Builtin.List.listExtendWith (.ref S) (.str x t) .none) _ _ s
  refine wpAny_bind ?_
  unfold Builtin.List.listItems
  refine wpAny_bind (wpAny_seqItems hS rfl (wpAny_pure ?_))
  show wpAny _ _ (updateSeq S (fun _ => #[]) >>= fun _ => letGo (#[] : Array Value).toList.reverse >>= fun _ => Builtin.List.listExtendWith (.ref S) (.str x t) .none) _ _ s
  refine wpAny_bind (wpAny_updateSeq hS rfl ?_)
  have hS₂ := Heap.get?_update_self (Obj.mapSeq (fun _ => (#[] : Array Value))) hS rfl
  have oth : ∀ b o, b ≠ S → s.heap.get? b = some o → (s.heap.update S (Obj.mapSeq (fun _ => (#[] : Array Value)))).get? b = some o :=
    fun b o hb e => (Heap.get?_update_other _ _ (Ne.symm hb)).trans e
  refine wpAny_bind (wpAny_letGo ?_)
  exact extend_str hh x t S .none _ hS₂ (fun s' acc' c' hk g d o hS' hacc => hR s' acc' c' (fun b ob hb e => hk b ob hb (oth b ob hb e)) g d o hS' hacc) hn
theorem call_list_txt {Q : Value → Shared → Prop} (hh : A.handled = none) (x : Str) (t : Tok) (hn : x.cps.size ≤ sizeLine)
    (hQ : ∀ s' acc' c', (∀ b o, s.heap.get? b = some o → s'.heap.get? b = some o) → s'.gens = s.gens → s'.drawn = s.drawn → s'.os = s.os →
      s'.heap.get? s.heap.objs.size = some { cls := .type "list", dict := none, data := .seq acc' c', slots := #[] } → ItemsOf (SignAt x) acc' x.cps.size → Q (.ref s.heap.objs.size) s') :
    wpAny (model prog w) A (call (.type "list") [.str x t]) Q E s := by
  refine callType_codes (Q₁ := fun obj s₁ => obj = .ref s.heap.objs.size ∧ s₁ = { s with heap := s.heap.push { cls := .type "list", data := .seq #[] } }) F.called_list (F.typeCall_list_1 _) F.entry_list_init
    (code_list_new _ ⟨rfl, rfl⟩) fun obj s₁ h₁ => ?_
  obtain ⟨rfl, rfl⟩ := h₁
  have hS : (s.heap.push { cls := .type "list", data := .seq #[] }).get? s.heap.objs.size = some { cls := .type "list", data := .seq #[] } := Heap.get?_push_size _ rfl
  refine ⟨⟨_, hS, rfl⟩, F.args_list_init_2 _ _, init_str (A := A.in1) hh x t _ hS (fun s' acc' c' hk g d o hS' hacc => ?_) hn⟩
  exact ⟨rfl, hQ s' acc' c' (fun b ob e => hk b ob (Nat.ne_of_lt (Heap.lt_size e)) (Heap.get?_push_of_some _ e)) g d o hS' hacc⟩
end
/-- list(s) -/
def rListS : List V → Hp → VK → Prop := fun xs H Q => ∃ z : Str, xs = [.str z] ∧ z.length ≤ sizeLine ∧ ∀ l, H l = none → Q (.ref l) (upd H l (.lst ((cpl z).map fun c => .str ⟨#[c]⟩)))
theorem call_list_S {X : Cx} (hc : X.calm = true) : CallR X (.type "list") rListS := by
  intro pins s σ H xs us Q I r h
  obtain ⟨z, rfl, hz, q⟩ := h
  obtain ⟨u, rfl, t, rfl⟩ := vals1 r
  refine call_list_txt (I.ok.hd hc) z t hz fun s' acc' c' hk hg hd ho hS hacc => ?_
  obtain ⟨hh', g', d', t', o'⟩ := s'
  obtain rfl : g' = s.gens := hg
  obtain rfl : d' = s.drawn := hd
  obtain rfl : o' = s.os := ho
  refine ⟨.ref s.heap.objs.size, upd H s.heap.objs.size (.lst ((cpl z).map fun c => .str ⟨#[c]⟩)), I.laid (t' := t') hk (Nat.le_refl _) ?_, rfl, q _ (I.hok.fresh (Nat.le_refl _))⟩
  refine ⟨by rw [List.length_map, ← cpl_len]; exact hz, acc'.toList, c', ?_, by rw [Array.toArray_toList]; exact hS⟩
  have hsz : acc'.toList.length = (cpl z).length := by
    have h0 := hacc.1
    simp only [Array.length_toList]
    rw [h0]; simp [cpl]
  refine vals_of_at (by rw [List.length_map, hsz]) fun j x v h1 h2 => ?_
  obtain ⟨c, u, h4, rfl⟩ := hacc.2 j v (by rw [← Array.getElem?_toList]; exact h2)
  have h5 : (cpl z)[j]? = some c := by
    show z.cps.toList[j]? = some c
    rw [Array.getElem?_toList]; exact h4
  rw [List.getElem?_map, h5] at h1
  cases h1
  exact ⟨u, rfl⟩
end PS
end

section
set_option Elab.async false
set_option linter.all false
set_option maxRecDepth 100000
set_option maxHeartbeats 4000000
/-! PS5: built-ins, fields, tests, displays. -/
namespace PS
open PySem PySem.Spec L2
open PyProof.Rows hiding St
section
variable {S : Stat} {X : Cx} {z : Z} {ex : PW.XC} {a b c e : Expr} {wa wb wc : PW.WE} {ra rb : PW.WR} {pos p : Pos} {t1 t2 t3 : PW.WT}
/-! ### built-ins by their names -/
/-- a built-in of one looked-at argument -/
theorem se_b1 {id : String} {x : Str} {f : PW.F1} {r : List V → Hp → VK → Prop} (hc : CallR X (.builtin id) r) (l : L1 S f (fun v H Q => r [v] H Q)) (hv : bootBuiltins x = some (.builtin id)) (hg : Gl X x) (hm : X.mg x = none) (ha : RE S z ex X a ra)
    (hn : x ≠ "__name__" := by decide) (hdb : (x == ("__debug__" : Str)) = false := by decide) (he : starEach [a] X.env = (false, eval a X.env) :: starEach [] X.env := by rfl) : SE S z ex X (.Call (.Name x p) [a] [] pos) (PW.wLk f ra) :=
  se_lk l ha fun t ht => pe_callB hc hg hm hv (pa_cons ht pa_nil he) hn hdb he
theorem se_t1 {id : String} {x : Str} {f : PW.F1} {r : List V → Hp → VK → Prop} (hc : CallR X (.type id) r) (l : L1 S f (fun v H Q => r [v] H Q)) (hv : bootBuiltins x = some (.type id)) (hg : Gl X x) (hm : X.mg x = none) (ha : RE S z ex X a ra)
    (hn : x ≠ "__name__" := by decide) (hdb : (x == ("__debug__" : Str)) = false := by decide) (he : starEach [a] X.env = (false, eval a X.env) :: starEach [] X.env := by rfl) : SE S z ex X (.Call (.Name x p) [a] [] pos) (PW.wLk f ra) :=
  se_lk l ha fun t ht => pe_callTy hc hg hm hv (pa_cons ht pa_nil he) hn hdb he
theorem ne_t1 {id : String} {x : Str} {f : PW.F1} {r : List V → Hp → VK → Prop} (hc : CallR X (.type id) r) (l : N1 S f (fun v H Q => r [v] H Q)) (hv : bootBuiltins x = some (.type id)) (hg : Gl X x) (hm : X.mg x = none) (ha : RE S z ex X a ra)
    (hn : x ≠ "__name__" := by decide) (hdb : (x == ("__debug__" : Str)) = false := by decide) (he : starEach [a] X.env = (false, eval a X.env) :: starEach [] X.env := by rfl) : NE S z ex X (.Call (.Name x p) [a] [] pos) (PW.wLk f ra) :=
  ne_lk l ha fun t ht => pe_callTy hc hg hm hv (pa_cons ht pa_nil he) hn hdb he
/-- a built-in of two values -/
theorem se_b2 {id : String} {x : Str} {f : PW.F2} {r : List V → Hp → VK → Prop} (hc : CallR X (.builtin id) r) (l : L2k S f (fun v w H Q => r [v, w] H Q)) (hv : bootBuiltins x = some (.builtin id)) (hg : Gl X x) (hm : X.mg x = none) (ha : SE S z ex X a wa) (hb : SE S z ex X b wb)
    (hn : x ≠ "__name__" := by decide) (hdb : (x == ("__debug__" : Str)) = false := by decide) (he : starEach [a, b] X.env = (false, eval a X.env) :: starEach [b] X.env := by rfl) (he2 : starEach [b] X.env = (false, eval b X.env) :: starEach [] X.env := by rfl) : SE S z ex X (.Call (.Name x p) [a, b] [] pos) (PW.wBin f wa wb) :=
  pe_imp (pe_callB hc hg hm hv (pa_cons ha (pa_cons hb pa_nil he2) he) hn hdb he (by rw [he2]; rfl)) fun _ _ _ h => tBin l h
abbrev rLenA (K : PySem.W.Frag) : List V → Hp → VK → Prop := fun xs H Q => (∃ x n, xs = [x] ∧ LenV K x H n ∧ Q (.int n) H) ∨ ∃ d kvs, xs = [.ref d] ∧ H d = some (.dK kvs) ∧ Q (.int kvs.length) H
theorem repK_len {G : Hp} {xs : List (Key × V)} {kvs : List (PW.D × PW.D)} (h : RepK S G xs kvs) : xs.length = kvs.length := by
  induction kvs generalizing xs with
  | nil => cases h; rfl
  | cons a t ih => cases h with
    | int h1 h2 => simp [ih h2]
    | str h1 h2 => simp [ih h2]
theorem l_len : L1 S PW.fLen (fun v H Q => ∃ x n, [v] = [x] ∧ LenV S.K x H n ∧ Q (.int n) H) := fun z G ρ σ H x d q Q E hx hf k => by
  cases d <;> first | exact hf.elim | skip
  · obtain ⟨x', rfl, rfl⟩ := hx.str_of
    exact ⟨_, x'.length, rfl, ⟨by rw [cpl_len, ← line_eq]; exact hf.1, rfl⟩, by rw [cpl_len]; exact k _ H G _ E (Same.refl G) (.int _) hf.2⟩
  · obtain ⟨a, xs, rfl, ha, ra⟩ := hx.tup_of
    exact ⟨_, xs.length, rfl, .inr ⟨xs, Same.seqT E.same ha, rfl⟩, by rw [ra.len]; exact k _ H G _ E (Same.refl G) (.int _) hf⟩
  · obtain ⟨a, xs, rfl, ha, ra⟩ := hx.lst_of E.same
    exact ⟨_, xs.length, rfl, .inl ⟨xs, SqL.of ha, rfl⟩, by rw [ra.len]; exact k _ H G _ E (Same.refl G) (.int _) hf⟩
theorem se_len (hK : X.K = S.K := by rfl) (hg : Gl X "len" := by rfl) (hm : X.mg "len" = none) (ha : RE S z ex X a ra) (he : starEach [a] X.env = (false, eval a X.env) :: starEach [] X.env := by rfl) : SE S z ex X (.Call (.Name "len" p) [a] [] pos) (PW.wLk PW.fLen ra) :=
  se_b1 (r := fun xs H Q => ∃ x n, xs = [x] ∧ LenV S.K x H n ∧ Q (.int n) H) (hK ▸ call_len) l_len PySem.boot_len hg hm ha (by decide) (by decide) he
theorem l_int : L1 S PW.fInt (fun v H Q => (∃ i, [v] = [.int i] ∧ Q (.int i) H) ∨ ∃ k, [v] = [.bl k] ∧ Q (.int (if k then 1 else 0)) H) := fun z G ρ σ H x d q Q E hx hf k => by
  cases d <;> first | exact hf.elim | skip
  · cases hx.bl_of; exact .inr ⟨_, rfl, k _ H G _ E (Same.refl G) (.int _) hf⟩
  · cases hx.int_of; exact .inl ⟨_, rfl, k _ H G _ E (Same.refl G) (.int _) hf⟩
theorem se_int1 (hg : Gl X "int" := by rfl) (hm : X.mg "int" = none) (ha : RE S z ex X a ra) (he : starEach [a] X.env = (false, eval a X.env) :: starEach [] X.env := by rfl) : SE S z ex X (.Call (.Name "int" p) [a] [] pos) (PW.wLk PW.fInt ra) :=
  se_t1 call_int1 l_int (by decide +kernel) hg hm ha (by decide) (by decide) he
theorem l_abs : L1 S PW.fAbs (fun v H Q => ∃ i, [v] = [.int i] ∧ Q (.int (if i < 0 then -i else i)) H) := fun z G ρ σ H x d q Q E hx hf k => by
  cases d <;> first | exact hf.elim | skip
  cases hx.int_of; exact ⟨_, rfl, k _ H G _ E (Same.refl G) (.int _) hf⟩
theorem se_abs (hg : Gl X "abs" := by rfl) (hm : X.mg "abs" = none) (ha : RE S z ex X a ra) (he : starEach [a] X.env = (false, eval a X.env) :: starEach [] X.env := by rfl) : SE S z ex X (.Call (.Name "abs" p) [a] [] pos) (PW.wLk PW.fAbs ra) :=
  se_b1 call_abs l_abs (by decide +kernel) hg hm ha (by decide) (by decide) he
theorem l_max2 : L2k S PW.fMax2 (fun v w H Q => ∃ i j, [v, w] = [.int i, .int j] ∧ Q (.int (if j > i then j else i)) H) := fun z G ρ σ H x y d e q Q E hx hy hf k => by
  cases d <;> cases e <;> first | exact hf.elim | skip
  cases hx.int_of; cases hy.int_of; exact ⟨_, _, rfl, k _ H G _ E (Same.refl G) (.int _) hf⟩
theorem l_min2 : L2k S PW.fMin2 (fun v w H Q => ∃ i j, [v, w] = [.int i, .int j] ∧ Q (.int (if j < i then j else i)) H) := fun z G ρ σ H x y d e q Q E hx hy hf k => by
  cases d <;> cases e <;> first | exact hf.elim | skip
  cases hx.int_of; cases hy.int_of; exact ⟨_, _, rfl, k _ H G _ E (Same.refl G) (.int _) hf⟩
theorem se_max2 (hc : X.calm = true := by rfl) (hg : Gl X "max" := by rfl) (hm : X.mg "max" = none) (ha : SE S z ex X a wa) (hb : SE S z ex X b wb) (he : starEach [a, b] X.env = (false, eval a X.env) :: starEach [b] X.env := by rfl) (he2 : starEach [b] X.env = (false, eval b X.env) :: starEach [] X.env := by rfl) :
    SE S z ex X (.Call (.Name "max" p) [a, b] [] pos) (PW.wBin PW.fMax2 wa wb) := se_b2 (call_max2 hc) l_max2 (by decide +kernel) hg hm ha hb (by decide) (by decide) he he2
theorem se_min2 (hc : X.calm = true := by rfl) (hg : Gl X "min" := by rfl) (hm : X.mg "min" = none) (ha : SE S z ex X a wa) (hb : SE S z ex X b wb) (he : starEach [a, b] X.env = (false, eval a X.env) :: starEach [b] X.env := by rfl) (he2 : starEach [b] X.env = (false, eval b X.env) :: starEach [] X.env := by rfl) :
    SE S z ex X (.Call (.Name "min" p) [a, b] [] pos) (PW.wBin PW.fMin2 wa wb) := se_b2 (call_min2 hc) l_min2 (by decide +kernel) hg hm ha hb (by decide) (by decide) he he2
theorem ints_of {G : Hp} : ∀ {xs : List V} {ds : List PW.D} {ns : List Int}, RepL S G xs ds → PW.intsOf ds = some ns → xs = ns.map V.int
  | _, _, ns, .nil, h => by cases h; rfl
  | v :: vs, d :: ds, ns, .cons a r, h => by
    cases d <;> first | (exact (nomatch (show (none : Option (List Int)) = some ns from h))) | skip
    simp only [PW.intsOf, Option.map_eq_some_iff] at h
    obtain ⟨ms, h1, rfl⟩ := h
    rw [a.int_of, ints_of r h1]; rfl
theorem l_maxL : L1 S PW.fMaxL (fun v H Q => rMax S.K [v] H Q) := fun z G ρ σ H x d q Q E hx hf k => by
  cases d <;> first | exact hf.elim | skip
  obtain ⟨a, xs, rfl, ha, ra⟩ := hx.lst_of E.same
  obtain ⟨ns, h1, h2, h3⟩ := hf
  refine ⟨a, ns, rfl, ints_of ra h1 ▸ SqL.of ha, List.length_pos_iff.mpr h2, fun m hm hy => k _ H G _ E (Same.refl G) (.int _) (h3 m hm hy)⟩
theorem l_minL : L1 S PW.fMinL (fun v H Q => rMin S.K [v] H Q) := fun z G ρ σ H x d q Q E hx hf k => by
  cases d <;> first | exact hf.elim | skip
  obtain ⟨a, xs, rfl, ha, ra⟩ := hx.lst_of E.same
  obtain ⟨ns, h1, h2, h3⟩ := hf
  refine ⟨a, ns, rfl, ints_of ra h1 ▸ SqL.of ha, List.length_pos_iff.mpr h2, fun m hm hy => k _ H G _ E (Same.refl G) (.int _) (h3 m hm hy)⟩
theorem se_maxL (hK : X.K = S.K := by rfl) (hc : X.calm = true := by rfl) (hg : Gl X "max" := by rfl) (hm : X.mg "max" = none) (ha : RE S z ex X a ra) (he : starEach [a] X.env = (false, eval a X.env) :: starEach [] X.env := by rfl) : SE S z ex X (.Call (.Name "max" p) [a] [] pos) (PW.wLk PW.fMaxL ra) :=
  se_b1 (r := rMax S.K) (hK ▸ cr_max hc) l_maxL (by decide +kernel) hg hm ha (by decide) (by decide) he
theorem se_minL (hK : X.K = S.K := by rfl) (hc : X.calm = true := by rfl) (hg : Gl X "min" := by rfl) (hm : X.mg "min" = none) (ha : RE S z ex X a ra) (he : starEach [a] X.env = (false, eval a X.env) :: starEach [] X.env := by rfl) : SE S z ex X (.Call (.Name "min" p) [a] [] pos) (PW.wLk PW.fMinL ra) :=
  se_b1 (r := rMin S.K) (hK ▸ cr_min hc) l_minL (by decide +kernel) hg hm ha (by decide) (by decide) he
/-- tuple(x) -/
theorem l_tuple : L1 S PW.fTuple (fun v H Q => ∃ p ys, [v] = [.ref p] ∧ ((SqL S.K H p ys ∧ ∀ l, H l = none → Q (.ref l) (upd H l (.tup ys))) ∨ (SqT S.K H p ys ∧ Q (.ref p) H))) := fun z G ρ σ H x d q Q E hx hf k => by
  cases d <;> first | exact hf.elim | skip
  · obtain ⟨a, xs, rfl, ha, ra⟩ := hx.tup_of
    exact ⟨a, xs, rfl, .inr ⟨Same.seqT E.same ha, k _ H G _ E (Same.refl G) (.tup ha ra) hf⟩⟩
  · obtain ⟨a, xs, rfl, ha, ra⟩ := hx.lst_of E.same
    refine ⟨a, xs, rfl, .inl ⟨SqL.of ha, fun l nl => ?_⟩⟩
    obtain ⟨E', sg⟩ := E.laid nl (.tup xs)
    exact k _ _ _ _ E' sg (.tup (SqT.of upd_same) (ra.mono sg)) hf
theorem se_tuple (hK : X.K = S.K := by rfl) (hg : Gl X "tuple" := by rfl) (hm : X.mg "tuple" = none) (ha : RE S z ex X a ra) (he : starEach [a] X.env = (false, eval a X.env) :: starEach [] X.env := by rfl) : SE S z ex X (.Call (.Name "tuple" p) [a] [] pos) (PW.wLk PW.fTuple ra) :=
  se_t1 (r := fun xs H Q => ∃ p ys, xs = [.ref p] ∧ ((SqL S.K H p ys ∧ ∀ l, H l = none → Q (.ref l) (upd H l (.tup ys))) ∨ (SqT S.K H p ys ∧ Q (.ref p) H))) (hK ▸ call_tuple_of) l_tuple (by decide +kernel) hg hm ha (by decide) (by decide) he
/-- list(x) -/
abbrev rListA (K : PySem.W.Frag) : List V → Hp → VK → Prop := fun xs H Q => (∃ p ys, xs = [.ref p] ∧ (SqL K H p ys ∨ SqT K H p ys) ∧ ∀ l, H l = none → Q (.ref l) (upd H l (.lst ys))) ∨ rListS xs H Q
theorem n_list : N1 S PW.fList (fun v H Q => rListA S.K [v] H Q) := fun z G ρ σ H x d q Q E hx hf k => by
  cases d with
  | tup ds =>
    obtain ⟨a, xs, rfl, ha, ra⟩ := hx.tup_of
    refine .inl ⟨a, xs, rfl, .inr (Same.seqT E.same ha), fun l nl => ?_⟩
    obtain ⟨E', N⟩ := E.newN nl (Own.lst (a := l) ra)
    exact k l _ _ E' N hf
  | lst ds =>
    obtain ⟨a, xs, rfl, ha, ra⟩ := hx.lst_of E.same
    refine .inl ⟨a, xs, rfl, .inl (SqL.of ha), fun l nl => ?_⟩
    obtain ⟨E', N⟩ := E.newN nl (Own.lst (a := l) ra)
    exact k l _ _ E' N hf
  | str s =>
    obtain ⟨x', rfl, rfl⟩ := hx.str_of
    refine .inr ⟨x', rfl, by rw [cpl_len, ← line_eq]; exact hf.1, fun l nl => ?_⟩
    have ra : ∀ s : List Nat, RepL S G (s.map fun c => V.str ⟨#[c]⟩) (s.map fun c => PW.D.str [c]) := fun s => by
      induction s with
      | nil => exact .nil
      | cons c t ih => exact .cons (Rep.str (S := S) (G := G) (⟨#[c]⟩ : Str) : Rep S G (.str ⟨#[c]⟩) (.str (cpl ⟨#[c]⟩))) ih
    obtain ⟨E', N⟩ := E.newN nl (Own.lst (a := l) (ra (cpl x')))
    exact k l _ _ E' N hf.2
  | scr ns =>
    rcases hx with r | ⟨a, o, rfl, _, r⟩
    · cases r with
      | scr h =>
        refine .inl ⟨_, _, rfl, .inl (E.same.seq h), fun l nl => ?_⟩
        have ra : RepL S G (ns.map V.int) (ns.map PW.D.int) := by
          clear hf h
          induction ns with
          | nil => exact .nil
          | cons i t ih => exact .cons (.int i) ih
        obtain ⟨E', N⟩ := E.newN nl (Own.lst (a := l) ra)
        exact k l _ _ E' N hf
    · cases r
  | _ => exact hf.elim
theorem ne_list (hK : X.K = S.K := by rfl) (hc : X.calm = true := by rfl) (hg : Gl X "list" := by rfl) (hm : X.mg "list" = none) (ha : RE S z ex X a ra) (he : starEach [a] X.env = (false, eval a X.env) :: starEach [] X.env := by rfl) : NE S z ex X (.Call (.Name "list" p) [a] [] pos) (PW.wLk PW.fList ra) :=
  ne_t1 (r := rListA S.K) (hK ▸ CallR.or call_list_of (call_list_S hc)) n_list (by decide +kernel) hg hm ha (by decide) (by decide) he
/-! ### isinstance of built-in types -/
def tyName : PW.D → Option String
  | .non => some "NoneType"
  | .bl _ => some "bool"
  | .int _ => some "int"
  | .str _ => some "str"
  | .tup _ => some "tuple"
  | .lst _ => some "list"
  | _ => none
def tyOf : PW.Ty → String
  | .int => "int"
  | .bool => "bool"
  | .str => "str"
  | .list => "list"
  | .tuple => "tuple"
theorem tyX_look {G H : Hp} {v : V} {d : PW.D} {n : String} (sm : Same G H) (l : Look S G H v d) (h : tyName d = some n) : TyX S.K H v (.type n) := by
  cases d with
  | non =>
    cases h
    rcases l with r | ⟨a, o, rfl, _, r⟩
    · cases r; exact .base .non
    · cases r
  | bl b => cases h; cases l.bl_of; exact .base (.bl _)
  | int b => cases h; cases l.int_of; exact .base (.int _)
  | str s => cases h; obtain ⟨x, rfl, rfl⟩ := l.str_of; exact .base (.str _)
  | tup ds =>
    cases h
    obtain ⟨a, xs, rfl, ha, ra⟩ := l.tup_of
    rcases ha with (ha | ⟨o, ha⟩) | ⟨o, its, n, h1, h2, _⟩
    · exact .base (.tup (sm _ _ ha))
    · exact .fTuple (sm _ _ ha)
    · exact .kTuple h1 h2
  | lst ds =>
    cases h
    obtain ⟨a, xs, rfl, ha, ra⟩ := l.lst_of sm
    exact .base (.lst ha)
  | dic _ => cases h
  | dit _ => cases h
  | obj _ _ => cases h
  | scr _ => cases h
theorem kit_of_ty {T : PW.Ty} {d : PW.D} {b : Bool} (e : PW.isTy T d = some b) : ∃ n, tyName d = some n ∧ kitB n (tyOf T) = some b := by
  cases T <;> cases d <;> cases e <;> exact ⟨_, rfl, by decide +kernel⟩
theorem l_is {T : PW.Ty} : L1 S (PW.fIs T) (fun v H Q => rIsi S.K [v, .ty (tyOf T)] H Q) := fun z G ρ σ H x d q Q E hx hf k => by
  unfold PW.fIs at hf
  cases eb : PW.isTy T d with
  | none => rw [eb] at hf; exact hf.elim
  | some b =>
    rw [eb] at hf
    obtain ⟨n, h1, h2⟩ := kit_of_ty eb
    exact ⟨x, _, .type n, .type (tyOf T), b, rfl, .ty _, tyX_look E.same hx h1, kit_ty h2, k _ H G _ E (Same.refl G) (.bl _) hf⟩
theorem se_is (T : PW.Ty) {Tn : Str} {p2 : Pos} (hK : X.K = S.K := by rfl) (hg : Gl X "isinstance" := by rfl) (hm : X.mg "isinstance" = none) (hg2 : Gl X Tn := by rfl) (hm2 : X.mg Tn = none) (hv2 : bootBuiltins Tn = some (.type (tyOf T)) := by decide +kernel) (ha : RE S z ex X a ra)
    (hn2 : Tn ≠ "__name__" := by decide) (hd2 : (Tn == ("__debug__" : Str)) = false := by decide)
    (he : starEach [a, .Name Tn p2] X.env = (false, eval a X.env) :: starEach [.Name Tn p2] X.env := by rfl) : SE S z ex X (.Call (.Name "isinstance" p) [a, .Name Tn p2] [] pos) (PW.wLk (PW.fIs T) ra) :=
  se_lk l_is ha fun t ht => pe_callB (r := rIsi S.K) (hK ▸ call_isi) hg hm (by decide +kernel) (pa_cons ht (pa_cons (pe_bltn (v := .ty (tyOf T)) hg2 hm2 hv2 rfl hn2 hd2) pa_nil) he) (by decide) (by decide) he
end
end PS
end

section
set_option Elab.async false
set_option linter.all false
set_option maxRecDepth 100000
set_option maxHeartbeats 4000000
/-! PS6: fields, tests, displays. -/
namespace PS
open PySem PySem.Spec L2
open PyProof.Rows hiding St
theorem ofS_inj {f g : String} (h : Str.ofString f = Str.ofString g) : f = g := by
  rw [Str.ofString_eq_toList, Str.ofString_eq_toList] at h
  injection h with h
  have h2 : f.toList.map Char.toNat = g.toList.map Char.toNat := by
    have := congrArg Array.toList h
    simpa using this
  have hc : ∀ a b : Char, a.toNat = b.toNat → a = b := fun a b e => Char.ext (UInt32.toNat_inj.mp e)
  have hm : ∀ (l m : List Char), l.map Char.toNat = m.map Char.toNat → l = m := fun l => by
    induction l with
    | nil => intro m h; cases m with
      | nil => rfl
      | cons => cases h
    | cons a l ih => intro m h; cases m with
      | nil => cases h
      | cons b m =>
        simp only [List.map_cons, List.cons.injEq] at h
        rw [hc a b h.1, ih m h.2]
  have h3 : f.toList = g.toList := hm _ _ h2
  exact String.toList_inj.mp h3
section
variable {S : Stat} {G H : Hp}
theorem repF_look {f : String} : ∀ {fs : List (Str × V)} {fds : List (String × PW.D)}, RepF S G fs fds → (∀ d, fds.lookup f = some d → ∃ v, fs.lookup (Str.ofString f) = some v ∧ Rep S G v d) ∧ (fds.lookup f = none → fs.lookup (Str.ofString f) = none)
  | _, _, .nil => ⟨fun d h => (by cases h), fun _ => rfl⟩
  | _, _, @RepF.cons _ _ g v d r t a b => by
    obtain ⟨h1, h2⟩ := repF_look (f := f) b
    by_cases e : f = g
    · subst e
      refine ⟨fun d' h => ?_, fun h => ?_⟩
      · rw [List.lookup_cons, beq_self_eq_true] at h
        cases h
        exact ⟨v, by rw [List.lookup_cons, beq_self_eq_true], a⟩
      · rw [List.lookup_cons, beq_self_eq_true] at h
        cases h
    · have e1 : (f == g) = false := beq_eq_false_iff_ne.mpr e
      have e2 : (Str.ofString f == Str.ofString g) = false := beq_eq_false_iff_ne.mpr fun q => e (ofS_inj q)
      refine ⟨fun d' h => ?_, fun h => ?_⟩
      · rw [List.lookup_cons, e1] at h
        obtain ⟨v', h3, h4⟩ := h1 d' h
        exact ⟨v', by rw [List.lookup_cons, e2]; exact h3, h4⟩
      · rw [List.lookup_cons, e1] at h
        rw [List.lookup_cons, e2]; exact h2 h
end
/-- what the written part says of the class c and its field f -/
def FldOk (S : Stat) (c f : String) : Prop := ∀ C, S.cls c = some C → Cls S.K C ∧ NoAttr S.K C (Str.ofString f)
def ConOk (S : Stat) (c f : String) (v : PW.D) : Prop := ∀ C, S.cls c = some C → Cls S.K C ∧ ∃ x u, Con S.K C (Str.ofString f) x u ∧ ∀ G, Rep S G x v
section
variable {S : Stat} {X : Cx} {z : Z} {ex : PW.XC} {a b c e : Expr} {wa wb wc : PW.WE} {ra rb : PW.WR} {pos p : Pos} {t1 t2 t3 : PW.WT}
theorem l_fld {c f : String} (F : FldOk S c f) : L1 S (PW.fFld c f) (fun x H Q => ∃ a C dx fs v, x = .ref a ∧ H a = some (.ins C dx fs) ∧ Cls S.K C ∧ NoAttr S.K C (Str.ofString f) ∧ fs.lookup (Str.ofString f) = some v ∧ Q v H) := fun z G ρ σ H x d q Q E hx hf k => by
  cases d <;> first | exact hf.elim | skip
  obtain ⟨rfl, h2⟩ := hf
  obtain ⟨a, C, dx, fs, rfl, ha, hc, r⟩ := hx.obj_of E.same
  obtain ⟨F1, F2⟩ := F C hc
  rename_i fds
  cases el : fds.lookup f with
  | none => rw [el] at h2; exact h2.elim
  | some d =>
    rw [el] at h2
    obtain ⟨v, e1, e2⟩ := (repF_look r).1 d el
    exact ⟨a, C, dx, fs, v, rfl, ha, F1, F2, e1, k v H G d E (Same.refl G) e2 h2⟩
theorem se_fld {c f : String} (F : FldOk S c f) (hK : X.K = S.K := by rfl) (ha : RE S z ex X a ra) (hb : attributeBase a (Str.ofString f) X.env (eval a X.env) = eval a X.env := by rfl) : SE S z ex X (.Attribute a (Str.ofString f) pos) (PW.wLk (PW.fFld c f) ra) :=
  se_lk (l_fld F) ha fun t ht => hK ▸ pe_fld ht hb
theorem l_con {c f : String} {v : PW.D} (F : ConOk S c f v) : L1 S (PW.fCon c f v) (fun x H Q => ∃ a C dx fs v u, x = .ref a ∧ H a = some (.ins C dx fs) ∧ Cls S.K C ∧ Con S.K C (Str.ofString f) v u ∧ fs.lookup (Str.ofString f) = none ∧ Q v H) := fun z G ρ σ H x d q Q E hx hf k => by
  cases d <;> first | exact hf.elim | skip
  obtain ⟨⟨rfl, h2⟩, h3⟩ := hf
  obtain ⟨a, C, dx, fs, rfl, ha, hc, r⟩ := hx.obj_of E.same
  obtain ⟨F1, x, u, F2, F3⟩ := F C hc
  exact ⟨a, C, dx, fs, x, u, rfl, ha, F1, F2, (repF_look r).2 h2, k x H G v E (Same.refl G) (F3 G) h3⟩
theorem se_con {c f : String} {v : PW.D} (F : ConOk S c f v) (hK : X.K = S.K := by rfl) (ha : RE S z ex X a ra) (hb : attributeBase a (Str.ofString f) X.env (eval a X.env) = eval a X.env := by rfl) : SE S z ex X (.Attribute a (Str.ofString f) pos) (PW.wLk (PW.fCon c f v) ra) :=
  se_lk (l_con F) ha fun t ht => hK ▸ pe_con ht hb
/-! ### tests -/
theorem st_not (h : ST S z ex X a t1) : ST S z ex X (.UnaryOp .Not a pos) (PW.tNot t1) := pt_imp (pt_not h) fun σ H Q ⟨G, ρ, q, E, w, k⟩ =>
  ⟨G, ρ, _, E, w, fun b H' G' ρ' E' sg hq => k _ H' G' ρ' E' sg hq⟩
theorem sw_and1 (h : ST S z ex X a t1) : SW S z ex X (.BoolOp .And [a] pos) t1 := pw_and1 h
theorem sw_or1 (h : ST S z ex X a t1) : SW S z ex X (.BoolOp .Or [a] pos) t1 := pw_or1 h
theorem sw_and {es : List Expr} (h : ST S z ex X a t1) (h2 : SW S z ex X (.BoolOp .And (b :: es) pos) t2) : SW S z ex X (.BoolOp .And (a :: b :: es) pos) (PW.tAnd t1 t2) := pw_imp (pw_and h h2) fun σ H Q ⟨G, ρ, q, E, w, k⟩ =>
  ⟨G, ρ, _, E, w, fun c H' G' ρ' E' sg hq => by
    cases c with
    | true => rw [if_pos rfl] at hq ⊢; exact ⟨G', ρ', q, E', hq, fun b H2 G2 ρ2 E2 sg2 q2 => k b H2 G2 ρ2 E2 (sg.trans sg2) q2⟩
    | false => rw [if_neg Bool.false_ne_true] at hq ⊢; exact k _ H' G' ρ' E' sg hq⟩
theorem sw_or {es : List Expr} (h : ST S z ex X a t1) (h2 : SW S z ex X (.BoolOp .Or (b :: es) pos) t2) : SW S z ex X (.BoolOp .Or (a :: b :: es) pos) (PW.tOr t1 t2) := pw_imp (pw_or h h2) fun σ H Q ⟨G, ρ, q, E, w, k⟩ =>
  ⟨G, ρ, _, E, w, fun c H' G' ρ' E' sg hq => by
    cases c with
    | true => rw [if_pos rfl] at hq ⊢; exact k _ H' G' ρ' E' sg hq
    | false => rw [if_neg Bool.false_ne_true] at hq ⊢; exact ⟨G', ρ', q, E', hq, fun b H2 G2 ρ2 E2 sg2 q2 => k b H2 G2 ρ2 E2 (sg.trans sg2) q2⟩⟩
theorem st_w (h : SW S z ex X a t1) : ST S z ex X a t1 := PW.pt h
/-- a bool by not, and, or -/
theorem pe_notB {ta : TE} (h : PE X a ta) : PE X (.UnaryOp .Not a pos) (tNotV ta) := pe_not h
theorem se_not (hK : X.K = S.K := by rfl) (h : RE S z ex X a ra) : SE S z ex X (.UnaryOp .Not a pos) (PW.wNot (PW.tTr ra)) := pe_imp (pe_notT h) fun σ H Q ⟨G, ρ, q, E, w, k⟩ =>
  ⟨G, ρ, _, E, w, fun v H' G' ρ' p E' sg pk hq => by
    obtain ⟨d, l, hq⟩ := pk G' ρ' H' _ E' (Same.refl _) hq
    cases ed : PW.truth d with
    | none => rw [ed] at hq; exact hq.elim
    | some b => rw [ed] at hq; exact ⟨b, hK ▸ truV_look E'.same l ed, k _ H' G' ρ' _ E' sg (.bl _) hq⟩⟩
theorem se_one {op} (h : SE S z ex X a wa) : SE S z ex X (.BoolOp op [a] pos) wa := pe_one h
theorem se_and {es : List Expr} (h : SE S z ex X a wa) (h2 : SE S z ex X (.BoolOp .And (b :: es) pos) wb) : SE S z ex X (.BoolOp .And (a :: b :: es) pos) (PW.wAnd wa wb) := pe_imp (pe_and h h2) fun σ H Q ⟨G, ρ, q, E, w, k⟩ =>
  ⟨G, ρ, _, E, w, fun v H' G' ρ' d E' sg r hq => by
    cases d <;> first | exact hq.elim | skip
    rename_i c
    refine ⟨c, r.bl_of, ?_⟩
    have hq2 : (if c = true then wb ex ρ' q else q (.bl false) ρ') := hq
    cases c with
    | true => rw [if_pos rfl] at hq2 ⊢; exact ⟨G', ρ', q, E', hq2, fun b H2 G2 ρ2 d2 E2 sg2 r2 q2 => k b H2 G2 ρ2 d2 E2 (sg.trans sg2) r2 q2⟩
    | false => rw [if_neg Bool.false_ne_true] at hq2 ⊢; exact k _ H' G' ρ' _ E' sg (.bl _) hq2⟩
theorem se_or {es : List Expr} (h : SE S z ex X a wa) (h2 : SE S z ex X (.BoolOp .Or (b :: es) pos) wb) : SE S z ex X (.BoolOp .Or (a :: b :: es) pos) (PW.wOr wa wb) := pe_imp (pe_or h h2) fun σ H Q ⟨G, ρ, q, E, w, k⟩ =>
  ⟨G, ρ, _, E, w, fun v H' G' ρ' d E' sg r hq => by
    cases d <;> first | exact hq.elim | skip
    rename_i c
    refine ⟨c, r.bl_of, ?_⟩
    have hq2 : (if c = true then q (.bl true) ρ' else wb ex ρ' q) := hq
    cases c with
    | true => rw [if_pos rfl] at hq2 ⊢; exact k _ H' G' ρ' _ E' sg (.bl _) hq2
    | false => rw [if_neg Bool.false_ne_true] at hq2 ⊢; exact ⟨G', ρ', q, E', hq2, fun b H2 G2 ρ2 d2 E2 sg2 r2 q2 => k b H2 G2 ρ2 d2 E2 (sg.trans sg2) r2 q2⟩⟩
theorem se_if (h : ST S z ex X c t1) (h2 : SE S z ex X a wa) (h3 : SE S z ex X b wb) : SE S z ex X (.IfExp c a b pos) (PW.wIf t1 wa wb) := pe_imp (pe_ifExp h h2 h3) fun σ H Q ⟨G, ρ, q, E, w, k⟩ =>
  ⟨G, ρ, _, E, w, fun c H' G' ρ' E' sg hq => by
    cases c with
    | true => rw [if_pos rfl] at hq ⊢; exact ⟨G', ρ', q, E', hq, fun b H2 G2 ρ2 d2 E2 sg2 r2 q2 => k b H2 G2 ρ2 d2 E2 (sg.trans sg2) r2 q2⟩
    | false => rw [if_neg Bool.false_ne_true] at hq ⊢; exact ⟨G', ρ', q, E', hq, fun b H2 G2 ρ2 d2 E2 sg2 r2 q2 => k b H2 G2 ρ2 d2 E2 (sg.trans sg2) r2 q2⟩⟩
/-- a < b < c -/
theorem tChainOf {f g : PW.F2} {r r' : R2} (l : L2k S f r) (l' : L2k S g r') {σ : St} {H : Hp} {Q : VK} (h : TOf S z ex (PW.wChain f g wa wb wc) σ H Q) : tChain r r' (TOf S z ex wa) (TOf S z ex wb) (TOf S z ex wc) σ H Q := by
  obtain ⟨G, ρ, q, E, w, k⟩ := h
  exact ⟨G, ρ, _, E, w, fun x H1 G1 ρ1 d E1 sg1 r1 w1 => ⟨G1, ρ1, _, E1, w1, fun y H2 G2 ρ2 e E2 sg2 r2 hf =>
    l z G2 ρ2 σ H2 x y d e _ _ E2 (.inl (r1.mono sg2)) (.inl r2) hf fun v H3 G3 d3 E3 sg3 r3 q3 => by
      cases d3 <;> first | exact q3.elim | skip
      rename_i c
      refine ⟨c, r3.bl_of, ?_⟩
      have hq2 : (if c = true then wc ex ρ2 fun z ρ3 => g e z fun r' => q r' ρ3 else q (.bl false) ρ2) := q3
      cases c with
      | true =>
        rw [if_pos rfl] at hq2 ⊢
        exact ⟨G3, ρ2, _, E3, hq2, fun v4 H4 G4 ρ4 d4 E4 sg4 r4 q4 => l' z G4 ρ4 σ H4 y v4 e d4 _ _ E4 (.inl ((r2.mono sg3).mono sg4)) (.inl r4) q4 fun v5 H5 G5 d5 E5 sg5 r5 q5 => k v5 H5 G5 ρ4 d5 E5 ((((sg1.trans sg2).trans sg3).trans sg4).trans sg5) r5 q5⟩
      | false => rw [if_neg Bool.false_ne_true] at hq2 ⊢; exact k _ H3 G3 ρ2 _ E3 ((sg1.trans sg2).trans sg3) (.bl _) hq2⟩⟩
theorem se_chain {op op' : CmpOp} {f g : PW.F2} {r r' : R2} (ho : OpR X (compareOp op) r) (l : L2k S f r) (ho' : OpR X (compareOp op') r') (l' : L2k S g r') (ha : SE S z ex X a wa) (hb : SE S z ex X b wb) (hc : SE S z ex X c wc) (hm : lastMarks [op, op'] [b, c] = false := by with_unfolding_all rfl) :
    SE S z ex X (.Compare a [op, op'] [b, c] pos) (PW.wChain f g wa wb wc) := pe_imp (pe_chain ho ho' ha hb hc hm) fun _ _ _ => tChainOf l l'
theorem st_chain {op op' : CmpOp} {f g : PW.F2} {r r' : R2} (ho : OpR X (compareOp op) r) (l : L2k S f r) (ho' : OpR X (compareOp op') r') (l' : L2k S g r') (ha : SE S z ex X a wa) (hb : SE S z ex X b wb) (hc : SE S z ex X c wc) (hm : lastMarks [op, op'] [b, c] = false := by with_unfolding_all rfl) :
    ST S z ex X (.Compare a [op, op'] [b, c] pos) (PW.tB (PW.wChain f g wa wb wc)) := pt_imp (pt_chain ho ho' ha hb hc hm) fun _ _ _ h => tChainOf l l' (ttest h)
/-! ### arguments, displays -/
theorem sa_nil : SA S z ex X [] PW.aNil := pa_imp pa_nil fun σ H Q ⟨G, ρ, q, E, w, k⟩ => k [] H G ρ [] E (Same.refl G) .nil w
theorem sa_cons {es : List Expr} {w2 : PW.WA} (h : SE S z ex X a wa) (h2 : SA S z ex X es w2) (hs : starEach (a :: es) X.env = (false, eval a X.env) :: starEach es X.env := by rfl) : SA S z ex X (a :: es) (PW.aCons wa w2) := pa_imp (pa_cons h h2 hs) fun σ H Q ⟨G, ρ, q, E, w, k⟩ =>
  ⟨G, ρ, _, E, w, fun x H1 G1 ρ1 d E1 sg1 r1 w1 => ⟨G1, ρ1, _, E1, w1, fun xs H2 G2 ρ2 ds E2 sg2 r2 q2 => k _ H2 G2 ρ2 _ E2 (sg1.trans sg2) (.cons (r1.mono sg2) r2) q2⟩⟩
theorem se_tup {es : List Expr} {w2 : PW.WA} {x1} (h : SA S z ex X es w2) : SE S z ex X (.Tuple es x1 pos) (PW.wTup w2) := pe_imp (pe_tup h) fun σ H Q ⟨G, ρ, q, E, w, k⟩ =>
  ⟨G, ρ, _, E, w, fun xs H1 G1 ρ1 ds E1 sg1 r1 ⟨hl, q1⟩ => ⟨by rw [r1.len, ← line_eq]; exact hl, fun p np => by
    obtain ⟨E', sg⟩ := E1.laid np (.tup xs)
    exact k _ _ _ _ _ E' (sg1.trans sg) (.tup (SqT.of upd_same) (r1.mono sg)) q1⟩⟩
theorem ne_lst {es : List Expr} {w2 : PW.WA} (h : SA S z ex X es w2) : NE S z ex X (.List es pos) (PW.nLst w2) := pe_imp (pe_lst h) fun σ H Q ⟨G, ρ, q, E, w, k⟩ =>
  ⟨G, ρ, _, E, w, fun xs H1 G1 ρ1 ds E1 sg1 r1 ⟨hl, q1⟩ => ⟨by rw [r1.len, ← line_eq]; exact hl, fun p np => by
    obtain ⟨E', N⟩ := E1.newN np (Own.lst (a := p) r1)
    exact k _ _ _ _ _ E' sg1 N q1⟩⟩
end
end PS
end

section
set_option Elab.async false
set_option linter.all false
set_option maxRecDepth 100000
set_option maxHeartbeats 4000000
/-! PS7: statements, targets, loops. -/
namespace PS
open PySem PySem.Spec L2
open PyProof.Rows hiding St
theorem pg_imp {X : Cx} {e : Expr} {t t' : TG} (h : PG X e t) (i : ∀ v σ H Q, t' v σ H Q → t v σ H Q) : PG X e t' := ⟨fun pins s σ H v u Q I r q => h.run pins s σ H v u Q I r (i v σ H Q q)⟩
theorem pi_imp {X : Cx} {tg e : Expr} {t t' : TI} (h : PI X tg e t) (i : ∀ σ H Q, t' σ H Q → t σ H Q) : PI X tg e t' := ⟨fun pins s σ H R I q => h.run pins s σ H R I (i σ H R q)⟩
section
variable {S : Stat} {z : Z} {G G' : Hp} {ρ : PW.Env} {σ : St} {H H' : Hp}
/-- a slot is let go -/
theorem EnvOk.drop (E : EnvOk S z G ρ σ H) {i : Nat} (nb : ∀ d, ρ[i]? ≠ some (.bo d)) : EnvOk S z G (ρ.set i .un) σ H := by
  have own_of : ∀ {j : Nat}, owned (ρ.set i .un) j → owned ρ j := fun {j} oj => by
    by_cases hj : j = i
    · subst hj
      rcases oj with ⟨d, q⟩ | ⟨d, q⟩ <;> (rw [List.getElem?_set_self' ] at q; cases h : ρ[j]? <;> rw [h] at q <;> cases q)
    · rcases oj with ⟨d, q⟩ | ⟨d, q⟩ <;> rw [List.getElem?_set_ne (Ne.symm hj)] at q
      · exact .inl ⟨d, q⟩
      · exact .inr ⟨d, q⟩
  refine ⟨E.same, E.grow, E.old, E.keep, by rw [List.length_set]; exact E.len, fun j sl q => ?_, fun j k a ne oj ok => E.apart j k a ne (own_of oj) (own_of ok), fun j a q => ?_, fun j d q => ?_, fun c hc => ⟨(E.rdo c hc).1, fun k ok => (E.rdo c hc).2 k (own_of ok)⟩⟩
  · by_cases hj : j = i
    · subst hj
      rw [List.getElem?_set_self'] at q
      cases h : ρ[j]? <;> rw [h] at q <;> cases q
      trivial
    · rw [List.getElem?_set_ne (Ne.symm hj)] at q
      exact E.slot j sl q
  · obtain ⟨q1, d, q2⟩ := E.held j a q
    have hj : j ≠ i := fun w => nb d (w ▸ q2)
    exact ⟨q1, d, by rw [List.getElem?_set_ne (Ne.symm hj)]; exact q2⟩
  · have hj : j ≠ i := by
      rintro rfl
      rw [List.getElem?_set_self'] at q
      cases h : ρ[j]? <;> rw [h] at q <;> cases q
    rw [List.getElem?_set_ne (Ne.symm hj)] at q
    obtain ⟨v', e3, h1 | ⟨c, o', ev, h1, h2, h3⟩⟩ := E.rds j d q
    · exact ⟨v', e3, .inl h1⟩
    · exact ⟨v', e3, .inr ⟨c, o', ev, h1, h2, h3⟩⟩
end
section
variable {S : Stat} {X : Cx} {z : Z} {vs : List V} {ex : PW.XC} {a b c e : Expr} {wa wb wc : PW.WE} {ra rb : PW.WR} {pos p : Pos} {t1 t2 t3 : PW.WT} {st : Stmt} {sts sts2 : List Stmt} {w w1 w2 : PW.WS} {g : PW.WG}
abbrev SS (S : Stat) (z : Z) (vs : List V) (ex : PW.XC) (X : Cx) (st : Stmt) (w : PW.WS) : Prop := PS X st (TSOf S z vs ex w)
abbrev SB (S : Stat) (z : Z) (vs : List V) (ex : PW.XC) (X : Cx) (st : List Stmt) (w : PW.WS) : Prop := PSs X st (TSOf S z vs ex w)
theorem ss_pass : SS S z vs ex X (.Pass pos) PW.sPass := ps_imp ps_pass fun D σ H ⟨G, ρ, E, ok, h, en⟩ => en.nx G ρ σ H ok (Same.refl G) h
theorem ss_break : SS S z vs ex X (.Break pos) PW.sBreak := ps_imp ps_break fun D σ H ⟨G, ρ, E, ok, h, en⟩ => en.bk G ρ σ H ok (Same.refl G) h
theorem ss_cont : SS S z vs ex X (.Continue pos) PW.sCont := ps_imp ps_continue fun D σ H ⟨G, ρ, E, ok, h, en⟩ => en.ct G ρ σ H ok (Same.refl G) h
theorem ss_never : SS S z vs ex X st PW.sNever := ps_imp ps_never fun D σ H ⟨G, ρ, E, ok, h, en⟩ => h
theorem ss_doc {x : Str} {j p2} : SS S z vs ex X (.Expr (.Constant (.str x) j p2) pos) PW.sPass := ps_imp ps_doc fun D σ H ⟨G, ρ, E, ok, h, en⟩ => en.nx G ρ σ H ok (Same.refl G) h
theorem sb_nil : SB S z vs ex X [] PW.sPass := pss_imp pss_nil fun D σ H ⟨G, ρ, E, ok, h, en⟩ => en.nx G ρ σ H ok (Same.refl G) h
theorem sb_one (h : SS S z vs ex X st w) : SB S z vs ex X [st] w := pss_one h
theorem sb_cons (h : SS S z vs ex X st w1) (h2 : SB S z vs ex X sts w2) : SB S z vs ex X (st :: sts) (PW.sSeq w1 w2) := pss_imp (pss_cons h h2) fun D σ H ⟨G, ρ, E, ok, h, en⟩ =>
  ⟨G, ρ, _, ok, h, ⟨fun G' ρ' σ' H' ok' sg q => ⟨G', ρ', E, ok', q, en.at sg⟩, en.rt, en.bk, en.ct⟩⟩
theorem ss_expr (h : SE S z ex X e wa) (hs : swapsWith e none pos.line X.env = pure false := by rfl) : SS S z vs ex X (.Expr e pos) (PW.sExpr wa) := ps_imp (ps_expr h hs) fun D σ H ⟨G, ρ, E, ok, h, en⟩ =>
  ⟨G, ρ, _, ok, h, fun v H' G' ρ' d ok' sg r q => en.nx G' ρ' σ H' ok' sg q⟩
/-! ### targets -/
/-- the other slots stand -/
def Keeps (ts : List Nat) (σ σ' : St) : Prop := σ'.length = σ.length ∧ ∀ i, i ∉ ts → σ'[i]? = σ[i]?
def GOf (S : Stat) (z : Z) (ts : List Nat) (g : PW.WG) : TG := fun v σ H Q => ∃ G ρ d k, EnvOk S z G ρ σ H ∧ Rep S G v d ∧ g d ρ k ∧ ∀ G' ρ' σ' H', EnvOk S z G' ρ' σ' H' → Same G G' → Keeps ts σ σ' → k ρ' → Q σ' H'
abbrev SG (S : Stat) (z : Z) (X : Cx) (ts : List Nat) (e : Expr) (g : PW.WG) : Prop := PG X e (GOf S z ts g)
theorem sg_n (i : Nat) {x : Str} (hN : X.N.Nodup) (hi : X.N[i]? = some x := by rfl) (hx : Loc X.env.scope x := by first | exact Or.inl rfl | exact Or.inr rfl) (hf : X.fn x = true ∨ X.env.scope.names.lookup x = some .local := by first | exact .inl rfl | exact .inr rfl) :
    SG S z X [i] (.Name x pos) (PW.gN i) := pg_imp (pg_name hN hi hx hf) fun v σ H Q ⟨G, ρ, d, k, ok, r, h, q⟩ => q G _ _ H (ok.setSh h.1 r) (Same.refl G) ⟨List.length_set .., fun j hj => List.getElem?_set_ne (fun e => hj (by rw [e]; exact List.mem_singleton.mpr rfl))⟩ h.2
def GsOf (S : Stat) (z : Z) (ts : List Nat) (g : List PW.D → PW.Env → (PW.Env → Prop) → Prop) : TGs := fun vs σ H Q => ∃ G ρ ds k, EnvOk S z G ρ σ H ∧ RepL S G vs ds ∧ g ds ρ k ∧ ∀ G' ρ' σ' H', EnvOk S z G' ρ' σ' H' → Same G G' → Keeps ts σ σ' → k ρ' → Q σ' H'
abbrev SGs (S : Stat) (z : Z) (X : Cx) (ts : List Nat) (es : List Expr) (is : List PW.WG) : Prop := PGs X es (GsOf S z ts (PW.gUn is))
theorem pgs_imp {es : List Expr} {t t' : TGs} (h : PGs X es t) (i : ∀ v σ H Q, t' v σ H Q → t v σ H Q) : PGs X es t' := ⟨fun pins s σ H v u Q I r q => h.run pins s σ H v u Q I r (i v σ H Q q)⟩
theorem sgs_nil : SGs S z X [] [] [] := pgs_imp pgs_nil fun v σ H Q ⟨G, ρ, ds, k, ok, r, h, q⟩ => by
  cases ds with
  | nil => cases r; exact ⟨rfl, q G ρ σ H ok (Same.refl G) ⟨rfl, fun _ _ => rfl⟩ h⟩
  | cons => exact h.elim
theorem sgs_cons {is : List PW.WG} {es : List Expr} {ts us : List Nat} (h1 : SG S z X ts e g) (h2 : SGs S z X us es is) (ht : (assignEach (e :: es) X.env).map (·.2) = assign e X.env :: (assignEach es X.env).map (·.2) := by rfl) : SGs S z X (ts ++ us) (e :: es) (g :: is) := pgs_imp (pgs_cons h1 h2 ht) fun v σ H Q ⟨G, ρ, ds, k, ok, r, h, q⟩ => by
  cases ds with
  | nil => exact h.elim
  | cons d ds =>
    cases r with
    | cons r1 r2 => exact ⟨_, _, rfl, G, ρ, d, _, ok, r1, h, fun G' ρ' σ' H' ok' sg kp h' => ⟨G', ρ', ds, k, ok', r2.mono sg, h', fun G2 ρ2 σ2 H2 ok2 sg2 kp2 h2 => q G2 ρ2 σ2 H2 ok2 (sg.trans sg2) ⟨kp2.1.trans kp.1, fun i hi => by
      simp only [List.mem_append, not_or] at hi
      rw [kp2.2 i hi.2, kp.2 i hi.1]⟩ h2⟩⟩
/-- as many items as targets -/
theorem gUn_len {is : List PW.WG} : ∀ {ds : List PW.D} {ρ : PW.Env} {k : PW.Env → Prop}, PW.gUn is ds ρ k → (∀ g ∈ is, ∀ d ρ k, g d ρ k → ∃ ρ', k ρ') → ds.length = is.length := by
  induction is with
  | nil => intro ds ρ k h _; cases ds with
    | nil => rfl
    | cons => exact h.elim
  | cons i is ih => intro ds ρ k h hg; cases ds with
    | nil => exact h.elim
    | cons d ds =>
      obtain ⟨ρ', h'⟩ := hg i (List.mem_cons_self ..) _ _ _ h
      exact congrArg Nat.succ (ih h' fun g hm => hg g (List.mem_cons_of_mem _ hm))
/-- a target that goes on -/
def Goes (g : PW.WG) : Prop := ∀ d ρ k, g d ρ k → ∃ ρ', k ρ'
theorem goes_n (i : Nat) : Goes (PW.gN i) := fun d ρ k h => ⟨_, h.2⟩
theorem goes_t : ∀ {gs : List PW.WG}, (∀ g ∈ gs, Goes g) → Goes (PW.gT gs) := fun {gs} hg d ρ k h => by
  cases d <;> first | exact h.elim | skip
  rename_i ds
  have h2 : PW.gUn gs ds ρ k := h
  clear h
  induction gs generalizing ds ρ with
  | nil => cases ds with
    | nil => exact ⟨_, h2⟩
    | cons => exact h2.elim
  | cons g gs ih => cases ds with
    | nil => exact h2.elim
    | cons d ds =>
      obtain ⟨ρ', h'⟩ := hg g (List.mem_cons_self ..) _ _ _ h2
      exact ih (fun g hm => hg g (List.mem_cons_of_mem _ hm)) _ _ h'
theorem sg_tup {es : List Expr} {gs : List PW.WG} {k : Nat} {ts : List Nat} (h : SGs S z X ts es gs) (hg : ∀ g ∈ gs, Goes g) (hK : X.K = S.K := by rfl) (hc : X.calm = true := by rfl) (hn : (assignEach es X.env).length = gs.length := by rfl) (hst : (assignEach es X.env).findIdx? (·.1) = none := by rfl) : SG S z X ts (.Tuple es k pos) (PW.gT gs) :=
  pg_imp (pg_tup hc h hn hst) fun v σ H Q ⟨G, ρ, d, k, ok, r, h, q⟩ => by
    cases d <;> first | exact h.elim | skip
    rename_i ds
    obtain ⟨a, xs, rfl, ha, ra⟩ := r.tup_of
    have h2 : PW.gUn gs ds ρ k := h
    exact ⟨a, xs, rfl, hK ▸ Same.seqT ok.same ha, by rw [ra.len]; exact gUn_len h2 hg, G, ρ, ds, k, ok, ra, h2, q⟩
/-! ### assignments -/
theorem ss_asg {tg : Expr} {ts : List Nat} (he : SE S z ex X e wa) (hg : SG S z X ts tg g) (hs : swapsWithSole [tg] e pos.line X.env = pure false := by rfl) (hw : swappedStores [tg] e X.env = pure none := by rfl) (h1 : (assignEach [tg] X.env).map (·.2) = [assign tg X.env] := by rfl) : SS S z vs ex X (.Assign [tg] e pos) (PW.sAsg g wa) := ps_imp (ps_asg he hg hs hw h1) fun D σ H ⟨G, ρ, E, ok, h, en⟩ =>
  ⟨G, ρ, _, ok, h, fun v H' G' ρ' d ok' sg r h' => ⟨G', ρ', d, _, ok', r, h', fun G2 ρ2 σ2 H2 ok2 sg2 _ h2 => en.nx G2 ρ2 σ2 H2 ok2 (sg.trans sg2) h2⟩⟩
theorem ss_set (i : Nat) {x : Str} {p' : Pos} (hN : X.N.Nodup) (he : SE S z ex X e wa) (hi : X.N[i]? = some x := by rfl) (hx : Loc X.env.scope x := by first | exact Or.inl rfl | exact Or.inr rfl) (hs : swapsWith e (some (.Name x p')) pos.line X.env = pure false := by rfl) (hf : X.fn x = true ∨ X.env.scope.names.lookup x = some .local := by first | exact .inl rfl | exact .inr rfl) :
    SS S z vs ex X (.Assign [.Name x p'] e pos) (PW.sSet i wa) := ps_imp (ps_set hN hi hx he hs hf) fun D σ H ⟨G, ρ, E, ok, h, en⟩ =>
  ⟨G, ρ, _, ok, h, fun v H' G' ρ' d ok' sg r h' => en.nx G' _ _ H' (ok'.setSh h'.1 r) sg h'.2⟩
theorem new_asg {i : Nat} {D : Ends} {σ : St} {H : Hp} (h : TSOf S z vs ex (PW.sNew i wa) D σ H) : tAsg (NOf S z ex wa) (gName i) D σ H := by
  obtain ⟨G, ρ, E, ok, h, en⟩ := h
  exact ⟨G, ρ, _, ok, h, fun a H' G' ρ' d ok' sg N h' => en.nx G' _ _ H' (ok'.setOw h'.1 N) sg h'.2⟩
theorem ss_new (i : Nat) {x : Str} {p' : Pos} (hN : X.N.Nodup) (he : NE S z ex X e wa) (hi : X.N[i]? = some x := by rfl) (hx : Loc X.env.scope x := by first | exact Or.inl rfl | exact Or.inr rfl) (hs : swapsWith e (some (.Name x p')) pos.line X.env = pure false := by rfl) (hf : X.fn x = true ∨ X.env.scope.names.lookup x = some .local := by first | exact .inl rfl | exact .inr rfl) :
    SS S z vs ex X (.Assign [.Name x p'] e pos) (PW.sNew i wa) := ps_imp (ps_set hN hi hx he hs hf) fun D σ H h => new_asg h
theorem ss_ret (he : SE S z ex X e wa) : SS S z vs ex X (.Return (some e) pos) (PW.sRet wa) := ps_imp (ps_ret he) fun D σ H ⟨G, ρ, E, ok, h, en⟩ =>
  ⟨G, ρ, _, ok, h, fun v H' G' ρ' d ok' sg r h' => en.rt v G' ρ' σ H' (.sh d) ok' sg r h'⟩
theorem ss_retN : SS S z vs ex X (.Return none pos) PW.sRetN := ps_imp ps_retN fun D σ H ⟨G, ρ, E, ok, h, en⟩ => en.rt .non G ρ σ H (.sh .non) ok (Same.refl G) (show Rep S G .non .non from .non) h
theorem ss_retF (hL : ∀ a, ¬ z.L a) (he : NE S z ex X e wa) : SS S z vs ex X (.Return (some e) pos) (PW.sRetF wa) := ps_imp (ps_ret he) fun D σ H ⟨G, ρ, E, ok, h, en⟩ =>
  ⟨G, ρ, _, ok, h, fun a H' G' ρ' d ok' sg N h' => en.rt _ G' ρ' σ H' (.fr d) ok' sg (by
    obtain ⟨o, h1, h2⟩ := N.at_
    exact ⟨a, o, rfl, N.off, N.old.resolve_left (hL a), h1, h2⟩) h'⟩
theorem ss_retO (i : Nat) {x : Str} (hL : ∀ a, ¬ z.L a) (hN : X.N[i]? = some x := by rfl) (hv : Vis X.env.scope x := by first | exact Or.inl rfl | exact Or.inr (Or.inl rfl) | exact Or.inr (Or.inr rfl)) (hd : (x == ("__debug__" : Str)) = false := by decide)
    (hcd : (x == ("__classdict__" : Str)) = false := by decide) : SS S z vs ex X (.Return (some (.Name x p)) pos) (PW.sRetO i) := ps_imp (ps_ret (pv i hN hv hd hcd)) fun D σ H ⟨G, ρ, E, ok, h, en⟩ => by
  unfold PW.sRetO at h
  cases e : ρ[i]? with
  | none => rw [e] at h; exact h.elim
  | some sl =>
    rw [e] at h
    cases sl with
    | ow d =>
      obtain ⟨a, o, e1, e2, r, g, b, l⟩ := ok.slot i _ e
      refine ⟨_, e1, en.rt _ G _ σ H (.fr d) (ok.drop (i := i) fun d' q => ?_) (Same.refl G) ⟨a, o, rfl, g, l.resolve_left (hL a), e2, r⟩ h⟩
      rw [e] at q; cases q
    | un => exact h.elim
    | sh d => exact h.elim
    | bo d => exact h.elim
    | rd d => exact h.elim
theorem ss_if (h : ST S z ex X c t1) (ha : SB S z vs ex X sts w1) (hb : SB S z vs ex X sts2 w2) : SS S z vs ex X (.If c sts sts2 pos) (PW.sIf t1 w1 w2) := ps_imp (ps_if h ha hb) fun D σ H ⟨G, ρ, E, ok, h, en⟩ =>
  ⟨G, ρ, _, ok, h, fun b H' G' ρ' ok' sg h' => by
    cases b with
    | true => rw [if_pos rfl] at h' ⊢; exact ⟨G', ρ', E, ok', h', en.at sg⟩
    | false => rw [if_neg Bool.false_ne_true] at h' ⊢; exact ⟨G', ρ', E, ok', h', en.at sg⟩⟩
/-! ### changes in place -/
theorem putO_ow {i : Nat} {G : Hp} {ρ : PW.Env} {σ : St} {H : Hp} {f : PW.D → (PW.D → Prop) → Prop} {k : PW.Env → Prop} (ok : EnvOk S z G ρ σ H) (h : PW.putO ρ i f k) : ∃ a o d, σ[i]? = some (some (.ref a)) ∧ H a = some o ∧ Own S G a o d ∧
    ∃ q : PW.D → Prop, f d q ∧ ∀ d' o', q d' → Own S G a o' d' → ∃ ρ', EnvOk S z G ρ' σ (upd H a o') ∧ k ρ' := by
  unfold PW.putO at h
  cases e : ρ[i]? with
  | none => rw [e] at h; exact h.elim
  | some sl =>
    rw [e] at h
    cases sl with
    | ow d =>
      obtain ⟨a, o, e1, e2, r, g, b, l⟩ := ok.slot i _ e
      exact ⟨a, o, d, e1, e2, r, _, h, fun d' o' h' r' => ⟨_, (ok.putOw (.inl ⟨d, e⟩) e1 r').1 d e, h'⟩⟩
    | bo d =>
      obtain ⟨a, o, e1, e2, r, g, b⟩ := ok.slot i _ e
      exact ⟨a, o, d, e1, e2, r, _, h, fun d' o' h' r' => ⟨_, (ok.putOw (.inr ⟨d, e⟩) e1 r').2 d e, h'⟩⟩
    | un => exact h.elim
    | sh d => exact h.elim
    | rd d => exact h.elim
theorem putO_mono {ρ : PW.Env} {i : Nat} {f g : PW.D → (PW.D → Prop) → Prop} {k : PW.Env → Prop} (h : PW.putO ρ i f k) (m : ∀ d q, f d q → g d q) : PW.putO ρ i g k := by
  unfold PW.putO at h ⊢
  cases e : ρ[i]? with
  | none => rw [e] at h; exact h.elim
  | some sl =>
    rw [e] at h
    cases sl with
    | ow d => exact m _ _ h
    | bo d => exact m _ _ h
    | un => exact h.elim
    | sh d => exact h.elim
    | rd d => exact h.elim
theorem ss_app (i : Nat) {x : Str} {apos cpos p1 : Pos} (hK : X.K = S.K := by rfl) (he : SE S z ex X e wa) (hN : X.N[i]? = some x := by rfl) (hv : Vis X.env.scope x := by first | exact Or.inl rfl | exact Or.inr (Or.inl rfl) | exact Or.inr (Or.inr rfl)) (hd : (x == ("__debug__" : Str)) = false := by decide)
    (hcd : (x == ("__classdict__" : Str)) = false := by decide) (hline : (apos.endLine == cpos.line) = true := by rfl) (hs : starEach [e] X.env = (false, eval e X.env) :: starEach [] X.env := by rfl)
    (hbase : attributeBase (.Name x p1) "append" X.env (eval (.Name x p1) X.env) = eval (.Name x p1) X.env := by rfl)
    (hfew : ((backTo cpos (starEach [e] X.env)).all (fun x => !x.1) && (backToKw cpos (keywordEach [] X.env)).all (fun x => x.1.isSome)
      && decide (([e] : List Expr).length + ([] : List Keyword).length + (if ([] : List Keyword).isEmpty then 0 else 1) < 30)) = true := by rfl)
    (hsw : swapsWith (.Call (.Attribute (.Name x p1) "append" apos) [e] [] cpos) none pos.line X.env = pure false := by rfl) : SS S z vs ex X (.Expr (.Call (.Attribute (.Name x p1) "append" apos) [e] [] cpos) pos) (PW.sApp i wa) :=
  ps_imp (ps_expr (pe_bm PySem.F.plainAttrs_list PySem.F.slot_list_append PySem.F.type_list_append mt_append (pv i hN hv hd hcd) (pa_cons he pa_nil hs) hbase hfew hline hs (by rfl)) hsw) fun D σ H ⟨G, ρ, E, ok, ⟨h0, h⟩, en⟩ => by
    obtain ⟨v, d, e1, l, hd⟩ := ok.look h0
    cases d <;> first | exact hd.elim | skip
    obtain ⟨a, xs, rfl, ha, _⟩ := l.lst_of ok.same
    refine ⟨_, e1, .inl ⟨rfl, _, SqL.of ha⟩, G, ρ, _, ok, h, fun y H1 G1 ρ1 dy ok1 sg1 ry h1 => ?_⟩
    obtain ⟨a', o, d, e2, e3, r, q, hq, put⟩ := putO_ow ok1 h1
    rw [e1] at e2; cases e2
    cases r <;> first | exact hq.elim | skip
    rename_i xs ds r
    refine ⟨a, xs, y, rfl, rfl, e3, by rw [r.len, ← line_eq]; exact hq.1, ?_⟩
    obtain ⟨ρ', ok', h'⟩ := put _ _ hq.2 (.lst (r.append (.cons ry .nil)))
    exact en.nx G1 ρ' σ _ ok' sg1 h'
/-- xs[j] = e -/
theorem ss_put (i : Nat) {x : Str} {j : Expr} {wj : PW.WE} {p1 p2 : Pos} (he : SE S z ex X e wa) (hj : SE S z ex X j wj) (hN : X.N[i]? = some x := by rfl) (hv : Vis X.env.scope x := by first | exact Or.inl rfl | exact Or.inr (Or.inl rfl) | exact Or.inr (Or.inr rfl)) (hd : (x == ("__debug__" : Str)) = false := by decide)
    (hcd : (x == ("__classdict__" : Str)) = false := by decide) (hs : swapsWithSole [.Subscript (.Name x p1) j p2] e pos.line X.env = pure false := by rfl) (hw : swappedStores [.Subscript (.Name x p1) j p2] e X.env = pure none := by rfl) (h1 : (assignEach [.Subscript (.Name x p1) j p2] X.env).map (·.2) = [assign (.Subscript (.Name x p1) j p2) X.env] := by rfl)
    (ha : ∀ v, assign (.Subscript (.Name x p1) j p2) X.env v = (do
      let ov ← holding [v] (eval (.Name x p1) X.env)
      let iv ← holding [v, ov] (eval j X.env)
      standAt p2
      holding [v, ov, iv] (setItem ov iv v)
      release [v, ov, iv] []) := by intro _; rfl) :
    SS S z vs ex X (.Assign [.Subscript (.Name x p1) j p2] e pos) (PW.sPut i wj wa) :=
  ps_imp (ps_asg he (pg_sub (pv i hN hv hd hcd) hj set_list ha) hs hw h1) fun D σ H ⟨G, ρ, E, ok, h, en⟩ =>
  ⟨G, ρ, _, ok, h, fun y H1 G1 ρ1 dy ok1 sg1 ry ⟨h0, h1⟩ => by
    obtain ⟨v, d, e1, l, _⟩ := ok1.look h0
    refine ⟨v, e1, G1, ρ1, _, ok1, h1, fun jv H2 G2 ρ2 dj ok2 sg2 rj h2 => ?_⟩
    obtain ⟨a', o, d, e2, e3, r, q, hq, put⟩ := putO_ow ok2 h2
    rw [e1] at e2; cases e2
    cases r <;> first | exact hq.elim | skip
    rename_i xs ds r
    cases dj <;> first | exact hq.elim | skip
    rename_i n
    have hq2 : (match PW.ixN ds.length n with | some m => q (.lst (ds.set m dy)) | none => False) := hq
    cases em : PW.ixN ds.length n with
    | none => rw [em] at hq2; exact hq2.elim
    | some m =>
      rw [em] at hq2
      refine ⟨a', xs, n, m, rfl, rj.int_of, e3, by rw [r.len, ixN_eq]; exact em, ?_⟩
      obtain ⟨ρ', ok', h'⟩ := put _ _ hq2 (.lst (r.set m (ry.mono sg2)))
      exact en.nx G2 ρ' σ _ ok' (sg1.trans sg2) h'⟩
theorem repF_put {G : Hp} {f : String} {v : V} {d : PW.D} (r : Rep S G v d) : ∀ {fs : List (Str × V)} {fds : List (String × PW.D)}, RepF S G fs fds → RepF S G (putF (Str.ofString f) v fs) (PW.putF f d fds) ∧ fs.length = fds.length
  | _, _, .nil => ⟨.cons r .nil, rfl⟩
  | _, _, @RepF.cons _ _ g v' d' rr t a b => by
    obtain ⟨h1, h2⟩ := repF_put r b
    refine ⟨?_, congrArg Nat.succ h2⟩
    unfold putF PW.putF
    by_cases e : g = f
    · subst e
      simp only [if_true]
      exact .cons r b
    · rw [if_neg e, if_neg (fun q => e (ofS_inj q))]
      exact .cons a h1
/-- o.f = e -/
theorem ss_fld (i : Nat) {x : Str} {c f : String} {p1 p2 : Pos} (F : FldOk S c f) (he : SE S z ex X e wa) (hK : X.K = S.K := by rfl) (hN : X.N[i]? = some x := by rfl) (hv : Vis X.env.scope x := by first | exact Or.inl rfl | exact Or.inr (Or.inl rfl) | exact Or.inr (Or.inr rfl)) (hd : (x == ("__debug__" : Str)) = false := by decide)
    (hcd : (x == ("__classdict__" : Str)) = false := by decide) (hs : swapsWith e (some (.Attribute (.Name x p1) (Str.ofString f) p2)) pos.line X.env = pure false := by rfl) : SS S z vs ex X (.Assign [.Attribute (.Name x p1) (Str.ofString f) p2] e pos) (PW.sFld i c f wa) :=
  ps_imp (ps_fld (pv i hN hv hd hcd) he hs) fun D σ H ⟨G, ρ, E, ok, h, en⟩ =>
  ⟨G, ρ, _, ok, h, fun y H1 G1 ρ1 dy ok1 sg1 ry h1 => by
    obtain ⟨a', o, d, e2, e3, r, q, hq, put⟩ := putO_ow ok1 h1
    refine ⟨_, e2, ?_⟩
    cases r <;> first | exact hq.elim | skip
    rename_i C dx fs c' fds hc r
    obtain ⟨hc', hl, hq2⟩ := hq
    subst hc'
    obtain ⟨F1, F2⟩ := F C hc
    obtain ⟨rp, hlen⟩ := repF_put (f := f) ry r
    refine ⟨a', C, dx, fs, rfl, e3, hK ▸ F1, hK ▸ F2, by rw [hlen]; omega, ?_⟩
    obtain ⟨ρ', ok', h'⟩ := put _ _ hq2 (.obj hc rp)
    exact en.nx G1 ρ' σ _ ok' sg1 h'⟩
/-! ### what is walked -/
/-- J yields ds, item by item -/
def Steps (S : Stat) (z : Z) (G0 : Hp) (J : It) (ds : List PW.D) : Prop := ∀ i z' G ρ σ H, EnvOk S z' G ρ σ H → Same G0 G →
  (∀ d, ds[i]? = some d → J.go i H ∧ ∀ x H', J.yld i H x H' → ∃ G', EnvOk S z' G' ρ σ H' ∧ Same G G' ∧ Rep S G' x d ∧ ∀ D o, H D = some o → H' D = some o ∧ (G D = none → G' D = none)) ∧ (i = ds.length → J.stop i H)
def IOf (S : Stat) (z : Z) (ex : PW.XC) (w : PW.WI) : TI := fun σ H R => ∃ G ρ k, EnvOk S z G ρ σ H ∧ w ex ρ k ∧
  ∀ J H' G' ρ' ds, EnvOk S z G' ρ' σ H' → Same G G' → Steps S z G' J ds → k ds ρ' → R J H'
abbrev SI (S : Stat) (z : Z) (ex : PW.XC) (X : Cx) (tg e : Expr) (w : PW.WI) : Prop := PI X tg e (IOf S z ex w)
theorem ss_for {tg iter : Expr} {wi : PW.WI} {ts : List Nat} (hp : PassesOwn (model X.prog X.w) X.A X.env X.xe) (hi : SI S z ex X tg iter wi) (hg : SG S z X ts tg g) (hb : SB S z vs ex X sts w) (hc : X.calm = true := by rfl) (hs : ∀ x, foldedSetIterable iter X.env x = pure x := by intro _; rfl) :
    SS S z vs ex X (.For tg iter sts [] pos) (PW.sFor wi g w) := ps_imp (ps_for hp hc hi hg hb hs) fun D σ H ⟨G, ρ, E, ok, h, en⟩ =>
  ⟨G, ρ, _, ok, h, fun J H1 G1 ρ1 ds ok1 sg1 stp h1 => by
    refine ⟨fun i m σ H => m = ds.length - i ∧ i ≤ ds.length ∧ ∃ G2 ρ2, EnvOk S z G2 ρ2 σ H ∧ Same G1 G2 ∧ PW.loop g w ex (ds.drop i) E ρ2, ⟨ds.length, by simp, Nat.zero_le _, G1, ρ1, ok1, Same.refl _, by simpa using h1⟩, ?_⟩
    rintro i m σ2 H2 ⟨rfl, hi, G2, ρ2, ok2, sg2, h2⟩
    obtain ⟨go, stop⟩ := stp i z G2 ρ2 σ2 H2 ok2 sg2
    by_cases hlt : i < ds.length
    · obtain ⟨g1, y1⟩ := go _ (List.getElem?_eq_getElem hlt)
      rw [List.drop_eq_getElem_cons hlt] at h2
      refine .inr ⟨g1, fun σ' H' => ∃ G3 ρ3, EnvOk S z G3 ρ3 σ' H' ∧ Same G1 G3 ∧ PW.loop g w ex (ds.drop (i + 1)) E ρ3, fun σ' H' ⟨G3, ρ3, a, b, d⟩ => ⟨ds.length - (i + 1), by omega, rfl, hlt, G3, ρ3, a, b, d⟩, fun x H' y => ?_⟩
      obtain ⟨G3, ok3, sg3, r3, _⟩ := y1 x H' y
      have h3 : g ds[i] ρ2 fun ρ1 => w ex { E with nx := fun ρ2 => PW.loop g w ex (ds.drop (i + 1)) E ρ2, ct := fun ρ2 => PW.loop g w ex (ds.drop (i + 1)) E ρ2, bk := E.nx } ρ1 := h2
      refine ⟨G3, ρ2, _, _, ok3, r3, h3, fun G4 ρ4 σ4 H4 ok4 sg4 _ h4 => ⟨G4, ρ4, _, ok4, h4, ?_⟩⟩
      have s14 := (sg2.trans sg3).trans sg4
      exact ⟨fun G5 ρ5 σ5 H5 ok5 sg5 h5 => ⟨G5, ρ5, ok5, s14.trans sg5, h5⟩, fun v G5 ρ5 σ5 H5 r ok5 sg5 rr h5 => en.rt v G5 ρ5 σ5 H5 r ok5 ((sg1.trans s14).trans sg5) rr h5,
        fun G5 ρ5 σ5 H5 ok5 sg5 h5 => en.nx G5 ρ5 σ5 H5 ok5 ((sg1.trans s14).trans sg5) h5, fun G5 ρ5 σ5 H5 ok5 sg5 h5 => ⟨G5, ρ5, ok5, s14.trans sg5, h5⟩⟩
    · have e : i = ds.length := by omega
      subst e
      rw [List.drop_length] at h2
      exact .inl ⟨stop rfl, en.nx G2 ρ2 σ2 H2 ok2 (sg1.trans sg2) h2⟩⟩
theorem ss_while (hp : PassesOwn (model X.prog X.w) X.A X.env X.xe) (hc : ST S z ex X c t1) (hb : SB S z vs ex X sts w) : SS S z vs ex X (.While c sts [] pos) (PW.sWhile t1 w) := ps_imp (ps_while hp hc hb) fun D σ H ⟨G, ρ, E, ok, h, en⟩ => by
  obtain ⟨I, ⟨m0, h0⟩, turn⟩ := h
  refine ⟨fun m σ H => ∃ G2 ρ2, EnvOk S z G2 ρ2 σ H ∧ Same G G2 ∧ I m ρ2, ⟨m0, G, ρ, ok, Same.refl G, h0⟩, ?_⟩
  rintro m σ2 H2 ⟨G2, ρ2, ok2, sg2, h2⟩
  refine ⟨G2, ρ2, _, ok2, turn m ρ2 h2, fun b H3 G3 ρ3 ok3 sg3 h3 => ?_⟩
  cases b with
  | false => rw [if_neg Bool.false_ne_true] at h3 ⊢; exact en.nx G3 ρ3 σ2 H3 ok3 (sg2.trans sg3) h3
  | true =>
    rw [if_pos rfl] at h3 ⊢
    refine ⟨fun σ' H' => ∃ m', m' < m ∧ ∃ G2 ρ2, EnvOk S z G2 ρ2 σ' H' ∧ Same G G2 ∧ I m' ρ2, fun σ' H' h => h, G3, ρ3, _, ok3, h3, ?_⟩
    have s3 := sg2.trans sg3
    exact ⟨fun G5 ρ5 σ5 H5 ok5 sg5 ⟨m', hm, h5⟩ => ⟨m', hm, G5, ρ5, ok5, s3.trans sg5, h5⟩, fun v G5 ρ5 σ5 H5 r ok5 sg5 rr h5 => en.rt v G5 ρ5 σ5 H5 r ok5 (s3.trans sg5) rr h5,
      fun G5 ρ5 σ5 H5 ok5 sg5 h5 => en.nx G5 ρ5 σ5 H5 ok5 (s3.trans sg5) h5, fun G5 ρ5 σ5 H5 ok5 sg5 ⟨m', hm, h5⟩ => ⟨m', hm, G5, ρ5, ok5, s3.trans sg5, h5⟩⟩
/-- a list, a tuple, as it comes -/
theorem pi_seq {tg : Expr} {t : TE} (h : PE X e t) : PI X tg e (fun σ H R => t σ H fun x H1 => ∃ a, x = .ref a ∧ (((∃ xs, SqL X.K H1 a xs) ∧ R (Itl X.K a) H1) ∨ ((∃ xs, SqT X.K H1 a xs) ∧ R (Itt X.K a) H1))) := by
  refine ⟨fun pins s σ H R I hw => ?_⟩
  refine thn (h.run pins s σ H _ I hw) fun v s1 ⟨x, H1, I1, r1, q1⟩ => ?_
  obtain ⟨a, rfl, ⟨⟨xs, hq⟩, q⟩ | ⟨⟨xs, hq⟩, q⟩⟩ := q1
  · cases r1
    obtain ⟨its, rv, p, hz⟩ := I1.list hq
    refine wpAny_pyIter_list p.isList ?_
    refine ⟨s1.heap.objs.size, [s1.heap.objs.size], _, _, H1, rfl, I1.kept (t' := s1.toks) fun b o e => Heap.get?_push_of_some _ e, turn_list a _, ⟨_, Heap.get?_push_size _ rfl, rfl, rfl⟩, fun b hb => ?_, q⟩
    have e : b = s1.heap.objs.size := by simpa using hb
    subst e
    exact I1.fpOk (Nat.le_refl _) (I1.hok.fresh (Nat.le_refl _))
  · cases r1
    obtain ⟨its, rv, p, hz⟩ := I1.tuple hq
    refine wpAny_pyIter_tuple (show s1.heap.IsTuple a its.toArray from p) ?_
    refine ⟨s1.heap.objs.size, [s1.heap.objs.size], _, _, H1, rfl, I1.kept (t' := s1.toks) fun b o e => Heap.get?_push_of_some _ e, turn_tuple a _, ⟨_, Heap.get?_push_size _ rfl, rfl, rfl⟩, fun b hb => ?_, q⟩
    have e : b = s1.heap.objs.size := by simpa using hb
    subst e
    exact I1.fpOk (Nat.le_refl _) (I1.hok.fresh (Nat.le_refl _))
theorem sqL_fn {H : Hp} {a : Addr} {xs ys : List V} (h : H a = some (.lst xs)) (h' : SqL S.K H a ys) (hk : ∀ o, S.K.lookup a ≠ some o) : xs = ys := by
  rcases h' with (h' | ⟨o, h'⟩) | ⟨o, its, n, h', _⟩
  · rw [h] at h'; cases h'; rfl
  · rw [h] at h'; cases h'
  · exact absurd h' (hk o)
theorem si_seq {tg : Expr} (ha : SE S z ex X a wa) (hK : X.K = S.K := by rfl) : SI S z ex X tg a (PW.iSeq wa) := pi_imp (pi_seq ha) fun σ H R ⟨G, ρ, k, ok, h, q⟩ =>
  ⟨G, ρ, _, ok, h, fun v H1 G1 ρ1 d ok1 sg1 r h1 => by
    cases d <;> first | exact h1.elim | skip
    · obtain ⟨a, xs, rfl, ha, ra⟩ := r.tup_of
      refine ⟨a, rfl, .inr ⟨⟨xs, hK ▸ Same.seqT ok1.same ha⟩, q _ H1 G1 ρ1 _ ok1 sg1 (fun i z2 G2 ρ2 σ2 H2 ok2 sg2 => ⟨fun d hd => ?_, fun e => ⟨xs, hK ▸ Same.seqT ok2.same (Same.seqT sg2 ha), by rw [ra.len, e]; exact Nat.le_refl _⟩⟩) h1⟩⟩
      have s2 : SqT X.K H2 a xs := hK ▸ Same.seqT ok2.same (Same.seqT sg2 ha)
      obtain ⟨v, hv, rv⟩ := ra.get hd
      refine ⟨⟨xs, v, s2, hv⟩, fun x H' ⟨e, y⟩ => ?_⟩
      subst e
      rw [y xs s2] at hv
      cases hv
      exact ⟨G2, ok2, Same.refl _, rv.mono sg2, fun _ _ h => ⟨h, fun q => q⟩⟩
    · obtain ⟨a, xs, rfl, ha, ra⟩ := r.lst_of
      refine ⟨a, rfl, .inl ⟨⟨xs, SqL.of (ok1.same _ _ ha)⟩, q _ H1 G1 ρ1 _ ok1 sg1 (fun i z2 G2 ρ2 σ2 H2 ok2 sg2 => ⟨fun d hd => ?_, fun e => ⟨xs, SqL.of (ok2.same _ _ (sg2 _ _ ha)), by rw [ra.len, e]; exact Nat.le_refl _⟩⟩) h1⟩⟩
      have s2 : SqL X.K H2 a xs := SqL.of (ok2.same _ _ (sg2 _ _ ha))
      obtain ⟨v, hv, rv⟩ := ra.get hd
      refine ⟨⟨xs, v, s2, hv⟩, fun x H' ⟨e, y⟩ => ?_⟩
      subst e
      rw [y xs s2] at hv
      cases hv
      exact ⟨G2, ok2, Same.refl _, rv.mono sg2, fun _ _ h => ⟨h, fun q => q⟩⟩⟩
theorem si_str {tg : Expr} (ha : SE S z ex X a wa) : SI S z ex X tg a (PW.iStr wa) := pi_imp (pi_str ha) fun σ H R ⟨G, ρ, k, ok, h, q⟩ =>
  ⟨G, ρ, _, ok, h, fun v H1 G1 ρ1 d ok1 sg1 r h1 => by
    cases d <;> first | exact h1.elim | skip
    obtain ⟨x, rfl, rfl⟩ := r.str_of
    have hl : (cpl x).length = x.cps.size := by simp [cpl]
    refine ⟨x, rfl, q _ H1 G1 ρ1 _ ok1 sg1 (fun i z2 G2 ρ2 σ2 H2 ok2 sg2 => ⟨fun d hd => ?_, fun e => ?_⟩) h1.2⟩
    · rw [List.getElem?_map, Option.map_eq_some_iff] at hd
      obtain ⟨c, hc, rfl⟩ := hd
      have hi : i < (cpl x).length := (List.getElem?_eq_some_iff.mp hc).1
      refine ⟨by rw [hl] at hi; exact hi, fun v H' ⟨e, c', hc', ev⟩ => ?_⟩
      subst e ev
      have e2 : x.cps[i]? = some c := by
        have h3 : x.cps.toList[i]? = some c := hc
        rwa [Array.getElem?_toList] at h3
      rw [e2] at hc'
      cases hc'
      exact ⟨G2, ok2, Same.refl _, (Rep.str (S := S) (G := G2) (⟨#[c]⟩ : Str) : Rep S G2 (.str ⟨#[c]⟩) (.str (cpl ⟨#[c]⟩))), fun _ _ h => ⟨h, fun q => q⟩⟩
    · rw [List.length_map, hl] at e
      exact Nat.le_of_eq e.symm⟩
theorem rng_get (lo : Int) (n i : Nat) : (PW.rng lo n)[i]? = if i < n then some (.int (lo + i)) else none := by
  induction n generalizing lo i with
  | zero => simp [PW.rng]
  | succ n ih =>
    cases i with
    | zero => simp [PW.rng]
    | succ i =>
      rw [PW.rng, List.getElem?_cons_succ, ih]
      simp only [Nat.add_lt_add_iff_right]
      split
      · congr 2; omega
      · rfl
theorem rng_len (lo : Int) (n : Nat) : (PW.rng lo n).length = n := by
  induction n generalizing lo with
  | zero => rfl
  | succ n ih => rw [PW.rng, List.length_cons, ih]
theorem rngD_get (lo : Int) (n i : Nat) : (PW.rngD lo n)[i]? = if i < n then some (.int (lo - i)) else none := by
  induction n generalizing lo i with
  | zero => simp [PW.rngD]
  | succ n ih =>
    cases i with
    | zero => simp [PW.rngD]
    | succ i =>
      rw [PW.rngD, List.getElem?_cons_succ, ih]
      simp only [Nat.add_lt_add_iff_right]
      split
      · congr 2; omega
      · rfl
theorem rngD_len (lo : Int) (n : Nat) : (PW.rngD lo n).length = n := by
  induction n generalizing lo with
  | zero => rfl
  | succ n ih => rw [PW.rngD, List.length_cons, ih]
theorem steps_rng {G : Hp} (lo : Int) (n : Nat) : Steps S z G (Itr lo n) (PW.rng lo n) := fun i z2 G2 ρ2 σ2 H2 ok2 sg2 => by
  refine ⟨fun d hd => ?_, fun e => by rw [rng_len] at e; exact Nat.le_of_eq e.symm⟩
  rw [rng_get] at hd
  split at hd
  · rename_i hi
    cases hd
    exact ⟨hi, fun x H' ⟨e, ev⟩ => by subst e ev; exact ⟨G2, ok2, Same.refl _, .int _, fun _ _ h => ⟨h, fun q => q⟩⟩⟩
  · cases hd
theorem si_rng1 {tg : Expr} (hg : Gl X "range" := by rfl) (hm : X.mg "range" = none) (ha : SE S z ex X a wa) (hs : starEach [a] X.env = [(false, eval a X.env)] := by rfl) : SI S z ex X tg (.Call (.Name "range" p) [a] [] pos) (PW.iRng1 wa) := pi_imp (pi_range1 hg hm (pa_cons ha pa_nil hs) hs) fun σ H R ⟨G, ρ, k, ok, h, q⟩ =>
  ⟨G, ρ, _, ok, h, fun v H1 G1 ρ1 d ok1 sg1 r h1 => by
    cases d <;> first | exact h1.elim | skip
    obtain ⟨⟨b1, b2⟩, h2⟩ := h1
    rw [r.int_of]
    exact ⟨_, rfl, b1, b2, q _ H1 G1 ρ1 _ ok1 sg1 (steps_rng 0 _) h2⟩⟩
theorem si_rng2 {tg : Expr} (hg : Gl X "range" := by rfl) (hm : X.mg "range" = none) (ha : SE S z ex X a wa) (hb : SE S z ex X b wb) (hs : starEach [a, b] X.env = [(false, eval a X.env), (false, eval b X.env)] := by rfl) (hs2 : starEach [b] X.env = [(false, eval b X.env)] := by rfl) : SI S z ex X tg (.Call (.Name "range" p) [a, b] [] pos) (PW.iRng2 wa wb) :=
  pi_imp (pi_range2 hg hm (pa_cons ha (pa_cons hb pa_nil hs2) (by rw [hs, hs2])) hs hs2) fun σ H R ⟨G, ρ, k, ok, h, q⟩ =>
  ⟨G, ρ, _, ok, h, fun v H1 G1 ρ1 d ok1 sg1 r h1 => ⟨G1, ρ1, _, ok1, h1, fun v2 H2 G2 ρ2 d2 ok2 sg2 r2 h2 => by
    cases d <;> cases d2 <;> first | exact h2.elim | skip
    obtain ⟨⟨⟨b1, b2⟩, b3, b4⟩, h3⟩ := h2
    rw [r.int_of, r2.int_of]
    exact ⟨_, _, rfl, ⟨b1, b2, b3, b4⟩, q _ H2 G2 ρ2 _ ok2 (sg1.trans sg2) (steps_rng _ _) h3⟩⟩⟩
/-- range(a, b, -1) -/
theorem si_rngD {tg c1 : Expr} {wc1 : PW.WE} (hg : Gl X "range" := by rfl) (hm : X.mg "range" = none) (ha : SE S z ex X a wa) (hb : SE S z ex X b wb) (hc : SE S z ex X c1 (PW.wUn PW.fNeg (PW.wC (.int 1)))) (hs : starEach [a, b, c1] X.env = (false, eval a X.env) :: starEach [b, c1] X.env := by rfl) (hs2 : starEach [b, c1] X.env = (false, eval b X.env) :: starEach [c1] X.env := by rfl)
    (hs3 : starEach [c1] X.env = (false, eval c1 X.env) :: starEach [] X.env := by rfl) (hpl : (backTo pos (starEach [b, c1] X.env)).any (·.1) = false := by rfl) : SI S z ex X tg (.Call (.Name "range" p) [a, b, c1] [] pos) (PW.iRngD wa wb) :=
  pi_imp (pi_range3 hg hm (pa_cons ha (pa_cons hb (pa_cons hc pa_nil hs3) hs2) hs) hs hpl) fun σ H R ⟨G, ρ, k, ok, h, q⟩ =>
  ⟨G, ρ, _, ok, h, fun v H1 G1 ρ1 d ok1 sg1 r h1 => ⟨G1, ρ1, _, ok1, h1, fun v2 H2 G2 ρ2 d2 ok2 sg2 r2 h2 => ⟨G2, ρ2, fun d ρ => d = .int (-1) ∧ ρ = ρ2, ok2, ⟨rfl, rfl⟩, fun v3 H3 G3 ρ3 d3 ok3 sg3 r3 h3 => by
    obtain ⟨rfl, rfl⟩ := h3
    cases d <;> cases d2 <;> first | exact h2.elim | skip
    obtain ⟨⟨⟨b1, b2⟩, b3, b4⟩, h3⟩ := h2
    rw [r.int_of, r2.int_of, r3.int_of]
    rename_i i j
    refine ⟨i, j, -1, (i - j).toNat, rfl, RgC.neg b1 b2 b3 b4, q _ H3 G3 _ _ ok3 ((sg1.trans sg2).trans sg3) (fun i' z4 G4 ρ4 σ4 H4 ok4 sg4 => ⟨fun d hd => ?_, fun e => by rw [rngD_len] at e; exact Nat.le_of_eq e.symm⟩) h3⟩
    rw [rngD_get] at hd
    split at hd
    · rename_i hi
      cases hd
      exact ⟨hi, fun x H' ⟨e, ev⟩ => by
        subst e ev
        refine ⟨G4, ok4, Same.refl _, ?_, fun _ _ h => ⟨h, fun q => q⟩⟩
        have : i + (i' : Int) * -1 = i - i' := by omega
        rw [this]; exact .int _⟩
    · cases hd⟩⟩⟩
end
end PS
end

section
set_option Elab.async false
set_option linter.all false
set_option maxRecDepth 100000
set_option maxHeartbeats 4000000
/-! PS8: list comprehensions. -/
namespace PS
open PySem PySem.Spec L2
open PyProof.Rows hiding St
section
variable {S : Stat} {z : Z} {G G' : Hp} {ρ ρ' : PW.Env} {σ σ' : St} {H H' : Hp}
/-- the present state as an entry: what slots own may be changed and shared -/
def rb (z : Z) (G : Hp) (ρ : PW.Env) (σ : St) (H : Hp) : Z := ⟨G, H, z.bo, fun a => ∃ (i : Nat) (d : PW.D), ρ[i]? = some (PW.Sl.ow d) ∧ σ[i]? = some (some (V.ref a)), z.rd⟩
theorem EnvOk.rb_self (E : EnvOk S z G ρ σ H) : EnvOk S (rb z G ρ σ H) G ρ σ H where
  same := E.same
  grow := Same.refl G
  old := fun a o _ e _ => e
  keep := fun a o e _ _ => e
  len := E.len
  slot := fun i sl e => by
    have h := E.slot i sl e
    cases sl with
    | un => trivial
    | sh d => exact h
    | ow d => obtain ⟨a, o, e1, e2, r, g, b, l⟩ := h; exact ⟨a, o, e1, e2, r, g, b, .inl ⟨i, d, e, e1⟩⟩
    | bo d => exact h
    | rd d => trivial
  apart := E.apart
  held := E.held
  rds := E.rds
  rdo := E.rdo
theorem EnvOk.notL (E : EnvOk S z G ρ σ H) {a : Addr} {o : HO} (h0 : z.H0 a = some o) (nl : ¬ z.L a) : ¬ (rb z G ρ σ H).L a := by
  rintro ⟨i, d, e1, e2⟩
  obtain ⟨b, o', e3, _, _, _, _, l⟩ := E.slot i _ e1
  rw [e2] at e3; cases e3
  rcases l with l | l
  · exact nl l
  · rw [l] at h0; cases h0
/-- back from there -/
theorem EnvOk.unrb (E : EnvOk S z G ρ σ H) (E' : EnvOk S (rb z G ρ σ H) G' ρ' σ' H') : EnvOk S z G' ρ' σ' H' where
  same := E'.same
  grow := E.grow.trans E'.grow
  old := fun a o h0 g0 nl => by
    have g := E.old a o h0 g0 nl
    by_cases hb : z.B a
    · obtain ⟨i, hi⟩ := hb
      obtain ⟨e1, d, e2⟩ := E.held i a hi
      obtain ⟨u, hu⟩ := E.there (.inr ⟨d, e2⟩) e1
      exact E'.old a u hu g (E.notL h0 nl)
    · exact E'.old a o (E.keep a o h0 hb nl) g (E.notL h0 nl)
  keep := fun a o h0 nb nl => E'.keep a o (E.keep a o h0 nb nl) nb (E.notL h0 nl)
  len := E'.len
  slot := fun i sl e => by
    have h := E'.slot i sl e
    cases sl with
    | un => trivial
    | sh d => exact h
    | ow d =>
      obtain ⟨a, o, e1, e2, r, g, b, l⟩ := h
      refine ⟨a, o, e1, e2, r, g, b, ?_⟩
      rcases l with ⟨j, d', f1, f2⟩ | l
      · obtain ⟨b', o', f3, _, _, _, _, l'⟩ := E.slot j _ f1
        rw [f2] at f3; cases f3; exact l'
      · by_cases hl : z.L a
        · exact .inl hl
        · refine .inr ?_
          cases q : z.H0 a with
          | none => rfl
          | some u =>
            have h3 : H a = some u := E.keep a u q b hl
            have h4 : H a = none := l
            rw [h3] at h4; cases h4
    | bo d => exact h
    | rd d => trivial
  apart := E'.apart
  held := E'.held
  rds := E'.rds
  rdo := E'.rdo
/-- the own names of a block forgotten -/
theorem EnvOk.wiped (E : EnvOk S z G ρ σ H) : ∀ (own : List Nat), (own.all fun i => PW.free ρ i) = true → EnvOk S z G (PW.wipe ρ own) (L2.wipe σ own) H
  | [], _ => E
  | v :: vs, h => by
    rw [List.all_cons, Bool.and_eq_true] at h
    have E1 := EnvOk.wiped E vs h.2
    have nb : ∀ d, (PW.wipe ρ vs)[v]? ≠ some (.bo d) := fun d q => by
      have hw : ∀ (ws : List Nat), (PW.wipe ρ ws)[v]? = some (.bo d) → ρ[v]? = some (.bo d) := fun ws => by
        induction ws with
        | nil => exact fun q => q
        | cons w ws ih =>
          intro q
          unfold PW.wipe at q
          by_cases e : w = v
          · subst e
            rw [List.getElem?_set_self'] at q
            cases h : (PW.wipe ρ ws)[w]? <;> rw [h] at q <;> cases q
          · rw [List.getElem?_set_ne e] at q
            exact ih q
      have := hw vs q
      have f := h.1
      unfold PW.free at f
      rw [this] at f
      cases f
    have E2 := E1.drop nb
    -- the slot is unset, too
    unfold PW.wipe L2.wipe
    have own_ne : ∀ {j : Nat}, owned ((PW.wipe ρ vs).set v .un) j → j ≠ v := fun {j} oj e => by
      subst e
      rcases oj with ⟨d, q⟩ | ⟨d, q⟩ <;> (rw [List.getElem?_set_self'] at q; cases h : (PW.wipe ρ vs)[j]? <;> rw [h] at q <;> cases q)
    refine ⟨E2.same, E2.grow, E2.old, E2.keep, by rw [List.length_set, List.length_set]; exact E1.len, fun j sl q => ?_, fun j k a ne oj ok ej => ?_, fun j a q => ?_, fun j d q => ?_, fun c hc => ⟨(E2.rdo c hc).1, fun k ok => by rw [List.getElem?_set_ne (Ne.symm (own_ne ok))]; exact (E2.rdo c hc).2 k ok⟩⟩
    · by_cases hj : j = v
      · subst hj
        rw [List.getElem?_set_self'] at q
        cases h : (PW.wipe ρ vs)[j]? <;> rw [h] at q <;> cases q
        trivial
      · rw [List.getElem?_set_ne (Ne.symm hj)]
        exact E2.slot j sl q
    · rw [List.getElem?_set_ne (Ne.symm (own_ne oj))] at ej
      rw [List.getElem?_set_ne (Ne.symm (own_ne ok))]
      exact E2.apart j k a ne oj ok ej
    · obtain ⟨q1, d, q2⟩ := E2.held j a q
      have hj := own_ne (.inr ⟨d, q2⟩)
      rw [List.getElem?_set_ne (Ne.symm hj)]
      exact ⟨q1, d, q2⟩
    · have hj : j ≠ v := by
        rintro rfl
        rw [List.getElem?_set_self'] at q
        cases h : (PW.wipe ρ vs)[j]? <;> rw [h] at q <;> cases q
      rw [List.getElem?_set_ne (Ne.symm hj)]
      obtain ⟨v', e3, h1 | ⟨c, o', ev, h1, h2, h3⟩⟩ := E2.rds j d q
      · exact ⟨v', e3, .inl h1⟩
      · exact ⟨v', e3, .inr ⟨c, o', ev, h1, h2, h3⟩⟩
theorem wipeV_get (σ : St) (i : Nat) : ∀ own : List Nat, i ∉ own → (L2.wipe σ own)[i]? = σ[i]?
  | [], _ => rfl
  | v :: vs, h => by
    simp only [List.mem_cons, not_or] at h
    unfold L2.wipe
    rw [List.getElem?_set_ne (Ne.symm h.1)]
    exact wipeV_get σ i vs h.2
theorem wipeV_own (σ : St) (i : Nat) : ∀ own : List Nat, i ∈ own → ∀ v, (L2.wipe σ own)[i]? ≠ some (some v)
  | v :: vs, h, w => by
    unfold L2.wipe
    by_cases e : v = i
    · subst e
      rw [List.getElem?_set_self']
      cases (L2.wipe σ vs)[v]? <;> simp
    · rw [List.getElem?_set_ne e]
      rcases List.mem_cons.mp h with h | h
      · exact absurd h.symm e
      · exact wipeV_own σ i vs h w
theorem wipeE_own (ρ : PW.Env) (i : Nat) : ∀ own : List Nat, i ∈ own → ∀ sl, (PW.wipe ρ own)[i]? = some sl → sl = .un
  | v :: vs, h, sl, q => by
    unfold PW.wipe at q
    by_cases e : v = i
    · subst e
      rw [List.getElem?_set_self'] at q
      cases hh : (PW.wipe ρ vs)[v]? <;> rw [hh] at q <;> cases q
      rfl
    · rw [List.getElem?_set_ne e] at q
      rcases List.mem_cons.mp h with h | h
      · exact absurd h.symm e
      · exact wipeE_own ρ i vs h sl q
theorem unwipe_get (ρ0 ρ : PW.Env) (i : Nat) (hl : i < ρ0.length) (hr : i < ρ.length) : ∀ own : List Nat, (PW.unwipe ρ0 ρ own)[i]? = if i ∈ own then ρ0[i]? else ρ[i]?
  | [] => by simp [PW.unwipe]
  | v :: vs => by
    have hlen : ∀ ws, (PW.unwipe ρ0 ρ ws).length = ρ.length := fun ws => by
      induction ws with
      | nil => rfl
      | cons w ws ih => rw [PW.unwipe, List.length_set, ih]
    unfold PW.unwipe
    by_cases e : v = i
    · subst e
      rw [List.getElem?_set_self (by rw [hlen]; exact hr)]
      simp [List.getD, List.getElem?_eq_getElem hl]
    · rw [List.getElem?_set_ne e, unwipe_get ρ0 ρ i hl hr vs]
      have : (i ∈ v :: vs) ↔ i ∈ vs := by simp [Ne.symm e]
      simp only [this]
/-- behind a block: the own slots stand as they stood -/
theorem EnvOk.unwiped {own : List Nat} {ρw : PW.Env} (E : EnvOk S z G ρ σ H) (hf : (own.all fun i => PW.free ρ i) = true) (E' : EnvOk S (rb z G (PW.wipe ρ own) (L2.wipe σ own) H) G' ρw (L2.wipe σ own) H') : EnvOk S z G' (PW.unwipe ρ ρw own) σ H' := by
  have Ew := E.wiped own hf
  have Eu := Ew.unrb E'
  have sgG : Same G G' := E'.grow
  have l1 : ρ.length = σ.length := E.len
  have l2 : ρw.length = σ.length := by
    have := E'.len
    rwa [L2.wipe_length] at this
  have ulen : (PW.unwipe ρ ρw own).length = ρw.length := by
    clear hf E' Ew Eu sgG
    induction own with
    | nil => rfl
    | cons w ws ih => rw [PW.unwipe, List.length_set, ih]
  have get : ∀ i, (PW.unwipe ρ ρw own)[i]? = if i ∈ own then ρ[i]? else ρw[i]? := fun i => by
    by_cases hi : i < ρ.length
    · exact unwipe_get ρ ρw i hi (by omega) own
    · rw [List.getElem?_eq_none (by rw [ulen]; omega)]
      split
      · rw [List.getElem?_eq_none (by omega)]
      · rw [List.getElem?_eq_none (by omega)]
  have nbo : ∀ i, i ∈ own → ∀ d, ρ[i]? ≠ some (.bo d) := fun i hi d q => by
    have f := List.all_eq_true.mp hf i hi
    unfold PW.free at f
    rw [q] at f; cases f
  -- a hidden object of the entry is as it was
  have lock : ∀ i a d, i ∈ own → ρ[i]? = some (.ow d) → σ[i]? = some (some (.ref a)) → ¬ (rb z G (PW.wipe ρ own) (L2.wipe σ own) H).L a := fun i a d hi hr hs => by
    rintro ⟨j, d', f1, f2⟩
    by_cases hj : j ∈ own
    · have := wipeE_own ρ j own hj _ f1
      cases this
    · rw [wipeV_get σ j own hj] at f2
      have f3 : ρ[j]? = some (.ow d') := by
        have hw : ∀ ws : List Nat, j ∉ ws → (PW.wipe ρ ws)[j]? = ρ[j]? := fun ws => by
          induction ws with
          | nil => exact fun _ => rfl
          | cons w ws ih =>
            intro hn
            simp only [List.mem_cons, not_or] at hn
            rw [PW.wipe, List.getElem?_set_ne (Ne.symm hn.1)]
            exact ih hn.2
        rw [← hw own hj]; exact f1
      have ne : j ≠ i := fun e => hj (e ▸ hi)
      exact E.apart j i a ne (.inl ⟨d', f3⟩) (.inl ⟨d, hr⟩) f2 hs
  have own_in : ∀ {j}, j ∈ own → owned (PW.unwipe ρ ρw own) j → ∃ d, ρ[j]? = some (.ow d) := fun {j} hj oj => by
    rcases oj with ⟨d, q⟩ | ⟨d, q⟩ <;> rw [get j, if_pos hj] at q
    · exact ⟨d, q⟩
    · exact absurd q (nbo j hj d)
  have own_out : ∀ {j}, j ∉ own → owned (PW.unwipe ρ ρw own) j → owned ρw j := fun {j} hj oj => by
    rcases oj with ⟨d, q⟩ | ⟨d, q⟩ <;> rw [get j, if_neg hj] at q
    · exact .inl ⟨d, q⟩
    · exact .inr ⟨d, q⟩
  have apart' : ∀ i j a, i ∈ own → j ∉ own → owned (PW.unwipe ρ ρw own) i → owned (PW.unwipe ρ ρw own) j → σ[i]? = some (some (.ref a)) → σ[j]? ≠ some (some (.ref a)) := fun i j a hi hj oi oj e1 e2 => by
    obtain ⟨d, hr⟩ := own_in hi oi
    obtain ⟨b, o, x1, x2, x3, x4, x5, x6⟩ := E.slot i _ hr
    rw [e1] at x1; cases x1
    have e3 : (L2.wipe σ own)[j]? = some (some (.ref a)) := by rw [wipeV_get σ j own hj]; exact e2
    rcases own_out hj oj with ⟨d', q⟩ | ⟨d', q⟩
    · obtain ⟨c, o', y1, y2, y3, y4, y5, y6⟩ := E'.slot j _ q
      rw [e3] at y1; cases y1
      rcases y6 with y6 | y6
      · exact lock i a d hi hr e1 y6
      · have : H a = none := y6
        rw [x2] at this; cases this
    · obtain ⟨c, o', y1, y2, y3, y4, y5⟩ := E'.slot j _ q
      rw [e3] at y1; cases y1
      exact x5 ⟨j, y5⟩
  refine ⟨Eu.same, Eu.grow, Eu.old, Eu.keep, by rw [ulen]; exact l2, fun i sl q => ?_, fun i j a ne oi oj e1 => ?_, fun i a q => ?_, fun i d q => ?_, fun a ha => ⟨(Eu.rdo a ha).1, fun j oj => ?_⟩⟩
  · rw [get i] at q
    by_cases hi : i ∈ own
    · rw [if_pos hi] at q
      have s := E.slot i sl q
      cases sl with
      | un => trivial
      | sh d => obtain ⟨v, x1, x2⟩ := s; exact ⟨v, x1, x2.mono sgG⟩
      | ow d =>
        obtain ⟨a, o, x1, x2, x3, x4, x5, x6⟩ := s
        have nl := lock i a d hi q x1
        exact ⟨a, o, x1, E'.keep a o x2 x5 nl, x3.mono sgG, E'.old a o x2 x4 nl, x5, x6⟩
      | bo d => exact absurd q (nbo i hi d)
      | rd d => trivial
    · rw [if_neg hi] at q
      have s := Eu.slot i sl q
      rw [wipeV_get σ i own hi] at s
      exact s
  · by_cases hi : i ∈ own
    · by_cases hj : j ∈ own
      · obtain ⟨d, h1⟩ := own_in hi oi
        obtain ⟨d', h2⟩ := own_in hj oj
        exact E.apart i j a ne (.inl ⟨d, h1⟩) (.inl ⟨d', h2⟩) e1
      · exact apart' i j a hi hj oi oj e1
    · by_cases hj : j ∈ own
      · exact fun e2 => apart' j i a hj hi oj oi e2 e1
      · have e3 : (L2.wipe σ own)[i]? = some (some (.ref a)) := by rw [wipeV_get σ i own hi]; exact e1
        have := Eu.apart i j a ne (own_out hi oi) (own_out hj oj) e3
        rwa [wipeV_get σ j own hj] at this
  · obtain ⟨q1, d, q2⟩ := Eu.held i a q
    have hi : i ∉ own := fun hi => by
      exact wipeV_own σ i own hi _ q1
    rw [wipeV_get σ i own hi] at q1
    exact ⟨q1, d, by rw [get i, if_neg hi]; exact q2⟩
  · rw [get i] at q
    by_cases hi : i ∈ own
    · rw [if_pos hi] at q
      obtain ⟨v, x1, x2 | ⟨a, o, ev, x2, x3, x4⟩⟩ := E.rds i d q
      · exact ⟨v, x1, .inl (x2.mono sgG)⟩
      · have nb : ¬ z.B a := by
          rintro ⟨j, hj⟩
          obtain ⟨h1, d', h2⟩ := E.held j a hj
          exact (E.rdo a x4).2 j (.inr ⟨d', h2⟩) h1
        have nl : ¬ (rb z G (PW.wipe ρ own) (L2.wipe σ own) H).L a := by
          rintro ⟨j, d', f1, f2⟩
          exact (Ew.rdo a x4).2 j (.inl ⟨d', f1⟩) f2
        exact ⟨v, x1, .inr ⟨a, o, ev, E'.keep a o x2 nb nl, x3.mono sgG, x4⟩⟩
    · rw [if_neg hi] at q
      obtain ⟨v, x1, x2⟩ := Eu.rds i d q
      rw [wipeV_get σ i own hi] at x1
      exact ⟨v, x1, x2⟩
  · by_cases hj : j ∈ own
    · obtain ⟨d', h2⟩ := own_in hj oj
      exact (E.rdo a ha).2 j (.inl ⟨d', h2⟩)
    · have := (Eu.rdo a ha).2 j (own_out hj oj)
      rwa [wipeV_get σ j own hj] at this
theorem wipeV_all (σ : St) (i : Nat) (own : List Nat) : (L2.wipe σ own)[i]? = if i ∈ own then (if i < σ.length then some none else none) else σ[i]? := by
  by_cases hi : i ∈ own
  · rw [if_pos hi]
    by_cases hl : i < σ.length
    · rw [if_pos hl]
      have h1 : i < (L2.wipe σ own).length := by rw [L2.wipe_length]; exact hl
      cases e : (L2.wipe σ own)[i]? with
      | none => rw [List.getElem?_eq_getElem h1] at e; cases e
      | some o => cases o with
        | none => rfl
        | some v => exact absurd e (wipeV_own σ i own hi v)
    · rw [if_neg hl]
      exact List.getElem?_eq_none (by rw [L2.wipe_length]; omega)
  · rw [if_neg hi]; exact wipeV_get σ i own hi
theorem wipe_keeps {σ σ2 : St} {ts own : List Nat} (h : Keeps ts (L2.wipe σ own) σ2) (hs : ∀ i ∈ ts, i ∈ own) : L2.wipe σ2 own = L2.wipe σ own := by
  have hl : σ2.length = σ.length := by rw [h.1, L2.wipe_length]
  refine List.ext_getElem? fun i => ?_
  rw [wipeV_all, wipeV_all, hl]
  by_cases hi : i ∈ own
  · rw [if_pos hi, if_pos hi]
  · rw [if_neg hi, if_neg hi, h.2 i (fun q => hi (hs i q)), wipeV_get σ i own hi]
/-- an object that the slots know nothing of is changed -/
theorem EnvOk.updOff (E : EnvOk S z G ρ σ H) {D : Addr} {o : HO} (g : G D = none) (h0 : z.H0 D = none) (nr : ¬ z.rd D) (no : ∀ j, owned ρ j → σ[j]? ≠ some (some (.ref D))) : EnvOk S z G ρ σ (upd H D o) where
  same := fun a u e => by rw [upd_ne (ne_of_none e g)]; exact E.same _ _ e
  grow := E.grow
  old := E.old
  keep := fun a u e b l => by
    have ne : a ≠ D := fun w => by rw [w, h0] at e; cases e
    rw [upd_ne ne]; exact E.keep a u e b l
  len := E.len
  slot := fun i sl e => by
    have h := E.slot i sl e
    cases sl with
    | un => trivial
    | sh d => exact h
    | ow d =>
      obtain ⟨a, u, e1, e2, r⟩ := h
      have ne : a ≠ D := fun w => no i (.inl ⟨d, e⟩) (w ▸ e1)
      exact ⟨a, u, e1, by rw [upd_ne ne]; exact e2, r⟩
    | bo d =>
      obtain ⟨a, u, e1, e2, r⟩ := h
      have ne : a ≠ D := fun w => no i (.inr ⟨d, e⟩) (w ▸ e1)
      exact ⟨a, u, e1, by rw [upd_ne ne]; exact e2, r⟩
    | rd d => trivial
  apart := E.apart
  held := E.held
  rds := fun i d e => by
    obtain ⟨v, e1, r | ⟨a, u, ev, h1, h2, h3⟩⟩ := E.rds i d e
    · exact ⟨v, e1, .inl r⟩
    · have ne : a ≠ D := fun w => nr (w ▸ h3)
      exact ⟨v, e1, .inr ⟨a, u, ev, by rw [upd_ne ne]; exact h1, h2, h3⟩⟩
  rdo := fun a h => by
    obtain ⟨⟨u, e⟩, q⟩ := E.rdo a h
    have ne : a ≠ D := fun w => nr (w ▸ h)
    exact ⟨⟨u, by rw [upd_ne ne]; exact e⟩, q⟩
theorem wipeE_get (ρ : PW.Env) (j : Nat) : ∀ ws : List Nat, j ∉ ws → (PW.wipe ρ ws)[j]? = ρ[j]?
  | [], _ => rfl
  | w :: ws, hn => by
    simp only [List.mem_cons, not_or] at hn
    rw [PW.wipe, List.getElem?_set_ne (Ne.symm hn.1)]
    exact wipeE_get ρ j ws hn.2
theorem owned_wipe {own : List Nat} {j : Nat} (h : owned (PW.wipe ρ own) j) : j ∉ own ∧ owned ρ j := by
  have hj : j ∉ own := fun hj => by
    rcases h with ⟨d, q⟩ | ⟨d, q⟩
    · have := wipeE_own ρ j own hj _ q; cases this
    · have := wipeE_own ρ j own hj _ q; cases this
  refine ⟨hj, ?_⟩
  rcases h with ⟨d, q⟩ | ⟨d, q⟩ <;> rw [wipeE_get ρ j own hj] at q
  · exact .inl ⟨d, q⟩
  · exact .inr ⟨d, q⟩
end
section
variable {S : Stat} {X : Cx} {z : Z} {ex : PW.XC} {pos : Pos}
theorem tLcOf {wi : PW.WI} {g : PW.WG} {tt : PW.WT} {we : PW.WE} {own ts : List Nat} (hts : ∀ i ∈ ts, i ∈ own) {σ : St} {H : Hp} {Q : VK} (h : NOf S z ex (PW.nLc own wi g tt we) σ H Q) :
    tLc (IOf S z ex wi) (fun v σ H Q => ∃ z', GOf S z' ts g v σ H Q) (fun σ H Q => ∃ z', TTOf S z' PW.noX tt σ H Q) (fun σ H Q => ∃ z', TOf S z' PW.noX we σ H Q) own σ H Q := by
  obtain ⟨G, ρ, q, ok, h, k⟩ := h
  refine ⟨G, ρ, _, ok, h, fun J H1 G1 ρ1 ds ok1 sg1 stp ⟨hf, h1⟩ D nD => ?_⟩
  have okw := ok1.wiped own hf
  have nrd : ¬ z.rd D := fun hr => by
    obtain ⟨⟨u, e⟩, _⟩ := ok1.rdo D hr
    rw [nD] at e; cases e
  -- the state between two turns
  refine ⟨fun i m H2 => m = ds.length - i ∧ i ≤ ds.length ∧ ∃ G2 ρ2 xs acc, EnvOk S (rb z G1 (PW.wipe ρ1 own) (L2.wipe σ own) H1) G2 ρ2 (L2.wipe σ own) H2 ∧ H2 D = some (.lst xs) ∧ G2 D = none ∧ (∀ j, owned ρ2 j → (L2.wipe σ own)[j]? ≠ some (some (.ref D))) ∧ RepL S G2 xs acc ∧
    PW.lcLoop own g tt we (ds.drop i) acc ρ2 fun acc ρ2 => q (.lst acc) (PW.unwipe ρ1 ρ2 own), ⟨ds.length, by simp, Nat.zero_le _, G1, _, [], [], ?_, upd_same, ok1.same.free nD, fun j oj e => ?_, .nil, by simpa using h1⟩, ?_⟩
  · exact okw.rb_self.laidH nD (.lst [])
  · obtain ⟨u, hu⟩ := okw.there oj e
    rw [nD] at hu; cases hu
  · rintro i m H2 ⟨rfl, hi, G2, ρ2, xs, acc, ok2, hD, gD, oD, ra, h2⟩
    have sg2 : Same G1 G2 := ok2.grow
    obtain ⟨go, stop⟩ := stp i _ G2 ρ2 _ H2 ok2 sg2
    by_cases hlt : i < ds.length
    · obtain ⟨g1, y1⟩ := go _ (List.getElem?_eq_getElem hlt)
      rw [List.drop_eq_getElem_cons hlt] at h2
      refine .inr ⟨g1, fun H' => ∃ G2 ρ2 xs acc, EnvOk S (rb z G1 (PW.wipe ρ1 own) (L2.wipe σ own) H1) G2 ρ2 (L2.wipe σ own) H' ∧ H' D = some (.lst xs) ∧ G2 D = none ∧ (∀ j, owned ρ2 j → (L2.wipe σ own)[j]? ≠ some (some (.ref D))) ∧ RepL S G2 xs acc ∧
        PW.lcLoop own g tt we (ds.drop (i + 1)) acc ρ2 fun acc ρ2 => q (.lst acc) (PW.unwipe ρ1 ρ2 own), fun H' hn => ⟨ds.length - (i + 1), by omega, rfl, hlt, hn⟩, fun x H3 y => ?_⟩
      obtain ⟨G3, ok3, sg3, r3, st3⟩ := y1 x H3 y
      obtain ⟨hD3, gD3'⟩ := st3 D _ hD
      have gD3 := gD3' gD
      have zi := ok3.rb_self
      -- D is locked for what the block does
      have nB : ¬ (rb (rb z G1 (PW.wipe ρ1 own) (L2.wipe σ own) H1) G3 ρ2 (L2.wipe σ own) H3).B D := by
        rintro ⟨j, hj⟩
        obtain ⟨e1, d, e2⟩ := ok3.held j D hj
        exact oD j (.inr ⟨d, e2⟩) e1
      have nL : ¬ (rb (rb z G1 (PW.wipe ρ1 own) (L2.wipe σ own) H1) G3 ρ2 (L2.wipe σ own) H3).L D := by
        rintro ⟨j, d, e1, e2⟩
        exact oD j (.inl ⟨d, e1⟩) e2
      -- behind the block
      have after : ∀ {G6 : Hp} {ρ6 : PW.Env} {σ4 : St} {H6 : Hp}, EnvOk S (rb (rb z G1 (PW.wipe ρ1 own) (L2.wipe σ own) H1) G3 ρ2 (L2.wipe σ own) H3) G6 ρ6 σ4 H6 → Keeps ts (L2.wipe σ own) σ4 →
          EnvOk S (rb z G1 (PW.wipe ρ1 own) (L2.wipe σ own) H1) G6 (PW.wipe ρ6 own) (L2.wipe σ own) H6 ∧ H6 D = some (.lst xs) ∧ G6 D = none ∧ ∀ j, owned (PW.wipe ρ6 own) j → (L2.wipe σ own)[j]? ≠ some (some (.ref D)) := fun {G6 ρ6 σ4 H6} ok6 kp => by
        have ok7 := ok3.unrb ok6
        have l4 : σ4.length = σ.length := by rw [kp.1, L2.wipe_length]
        have fr : (own.all fun i => PW.free ρ6 i) = true := List.all_eq_true.mpr fun j hj => by
          have hr := List.all_eq_true.mp hf j hj
          have hl : j < ρ6.length := by
            rw [ok7.len, l4, ← ok1.len]
            unfold PW.free at hr
            cases e : ρ1[j]? with
            | none => rw [e] at hr; cases hr
            | some sl => exact (List.getElem?_eq_some_iff.mp e).1
          unfold PW.free
          rw [List.getElem?_eq_getElem hl]
          cases e : ρ6[j] with
          | bo d =>
            obtain ⟨a, o, _, _, _, _, hb⟩ := ok7.slot j (.bo d) (by rw [List.getElem?_eq_getElem hl, e])
            obtain ⟨w1, _⟩ := okw.held j a hb
            exact absurd w1 (wipeV_own σ j own hj _)
          | _ => rfl
        have ok8 := ok7.wiped own fr
        rw [wipe_keeps kp hts] at ok8
        refine ⟨ok8, ok6.keep D _ hD3 nB nL, ok6.old D _ hD3 gD3 nL, fun j oj e => ?_⟩
        obtain ⟨hj, oj'⟩ := owned_wipe oj
        have e4 : σ4[j]? = some (some (.ref D)) := by
          rw [kp.2 j (fun w => hj (hts j w))]; exact e
        rcases oj' with ⟨d, e5⟩ | ⟨d, e5⟩
        · obtain ⟨a, o, f1, _, _, _, _, l⟩ := ok6.slot j _ e5
          rw [e4] at f1; cases f1
          rcases l with l | l
          · exact nL l
          · have : H3 D = none := l
            rw [hD3] at this; cases this
        · obtain ⟨a, o, f1, _, _, _, hb⟩ := ok6.slot j _ e5
          rw [e4] at f1; cases f1
          exact nB ⟨j, hb⟩
      have h3 : g ds[i] ρ2 fun ρ1' => tt PW.noX ρ1' fun b ρ2' => if b = true then we PW.noX ρ2' fun y ρ3 => acc.length < PW.line ∧ PW.lcLoop own g tt we (ds.drop (i + 1)) (acc ++ [y]) (PW.wipe ρ3 own) (fun acc ρ2 => q (.lst acc) (PW.unwipe ρ1 ρ2 own))
        else PW.lcLoop own g tt we (ds.drop (i + 1)) acc (PW.wipe ρ2' own) (fun acc ρ2 => q (.lst acc) (PW.unwipe ρ1 ρ2 own)) := h2
      refine ⟨_, G3, ρ2, _, _, zi, r3, h3, fun G4 ρ4 σ4 H4 ok4 sg4 kp4 h4 => ⟨wipe_keeps kp4 hts, _, G4, ρ4, _, ok4, h4, fun b H5 G5 ρ5 ok5 sg5 h5 => ?_⟩⟩
      cases b with
      | true =>
        rw [if_pos rfl] at h5 ⊢
        refine ⟨_, G5, ρ5, _, ok5, h5, fun y H6 G6 ρ6 dy ok6 sg6 ry ⟨hl, h6⟩ => ?_⟩
        obtain ⟨ok9, hD9, gD9, oD9⟩ := after ok6 kp4
        refine ⟨xs, hD9, by rw [ra.len, ← line_eq]; exact hl, G6, _, _, _, ok9.updOff gD9 nD nrd oD9, upd_same, gD9, oD9, ((((ra.mono sg3).mono sg4).mono sg5).mono sg6).append (.cons ry .nil), h6⟩
      | false =>
        rw [if_neg Bool.false_ne_true] at h5 ⊢
        obtain ⟨ok9, hD9, gD9, oD9⟩ := after ok5 kp4
        exact ⟨G5, _, xs, acc, ok9, hD9, gD9, oD9, ((ra.mono sg3).mono sg4).mono sg5, h5⟩
    · have e : i = ds.length := by omega
      subst e
      rw [List.drop_length] at h2
      have okE := ok1.unwiped hf ok2
      refine .inl ⟨stop rfl, k D H2 G2 _ _ okE (sg1.trans sg2) ⟨⟨_, hD, .lst ra⟩, gD, (ok1.new0 nD).1, (ok1.new0 nD).2, fun j oj e => ?_, nrd⟩ h2⟩
      by_cases hj : j ∈ own
      · have hjl : j < ρ1.length := by
          have hr := List.all_eq_true.mp hf j hj
          unfold PW.free at hr
          cases e : ρ1[j]? with
          | none => rw [e] at hr; cases hr
          | some sl => exact (List.getElem?_eq_some_iff.mp e).1
        have l2 : ρ2.length = σ.length := by
          have := ok2.len
          rwa [L2.wipe_length] at this
        have ge := unwipe_get ρ1 ρ2 j hjl (by rw [l2, ← ok1.len]; exact hjl) own
        rw [if_pos hj] at ge
        have oj1 : owned ρ1 j := by
          rcases oj with ⟨d, w⟩ | ⟨d, w⟩ <;> rw [ge] at w
          · exact .inl ⟨d, w⟩
          · exact .inr ⟨d, w⟩
        obtain ⟨u, hu⟩ := ok1.there oj1 e
        rw [nD] at hu; cases hu
      · by_cases hjl : j < ρ1.length
        · have l2 : ρ2.length = σ.length := by
            have := ok2.len
            rwa [L2.wipe_length] at this
          have ge := unwipe_get ρ1 ρ2 j hjl (by rw [l2, ← ok1.len]; exact hjl) own
          rw [if_neg hj] at ge
          have oj1 : owned ρ2 j := by
            rcases oj with ⟨d, w⟩ | ⟨d, w⟩ <;> rw [ge] at w
            · exact .inl ⟨d, w⟩
            · exact .inr ⟨d, w⟩
          exact oD j oj1 (by rw [wipeV_get σ j own hj]; exact e)
        · have : j < σ.length := (List.getElem?_eq_some_iff.mp e).1
          rw [← ok1.len] at this
          exact absurd this hjl
abbrev SP1 (S : Stat) (z : Z) (X : Cx) (ifs : List Expr) (t : PW.WT) : Prop := PTs X ifs (TTOf S z PW.noX t)
theorem sp_nil : SP1 S z X [] PW.tYes := ⟨fun pins s σ H Q I ⟨G, ρ, q, ok, h, k⟩ => pts_nil.run pins s σ H Q I (k true H G ρ ok (Same.refl G) h)⟩
theorem sp_one {c : Expr} {t : PW.WT} (h : ST S z PW.noX X c t) : SP1 S z X [c] t := pts_one h
/-- [elt for tg in iter if ..] -/
theorem ne_lc {elt tg iter : Expr} {ifs : List Expr} {scope : Scope} {own : List (Str × Nat)} {ts : List Nat} {wi : PW.WI} {g : PW.WG} {tt : PW.WT} {we : PW.WE} (hN : X.N.Nodup) (hi : SI S z ex X tg iter wi) (ok : blkC X.N X.env.scope scope own = true)
    (hg : ∀ (s : Shared) (H : Hp) (C : Addr) (cl : List (Str × Addr)) (fp : List Addr) (z' : Z), SG S z' (X.blk s H scope (compEnvC scope cl C X.env) fp) ts tg g)
    (ht : ∀ (s : Shared) (H : Hp) (C : Addr) (cl : List (Str × Addr)) (fp : List Addr) (z' : Z), SP1 S z' (X.blk s H scope (compEnvC scope cl C X.env) fp) ifs tt)
    (he : ∀ (s : Shared) (H : Hp) (C : Addr) (cl : List (Str × Addr)) (fp : List Addr) (z' : Z), SE S z' PW.noX (X.blk s H scope (compEnvC scope cl C X.env) fp) elt we)
    (hts : ∀ i ∈ ts, i ∈ own.map (·.2) := by decide) (hc : X.calm = true := by rfl) (hs : ∀ x, foldedSetIterable iter X.env x = pure x := by intro _; rfl) : NE S z ex X (.ListComp elt [⟨tg, iter, ifs, 0⟩] scope pos) (PW.nLc (own.map (·.2)) wi g tt we) :=
  pe_imp (pe_lc (g := fun v σ H Q => ∃ z', GOf S z' ts g v σ H Q) (tt := fun σ H Q => ∃ z', TTOf S z' PW.noX tt σ H Q) (te := fun σ H Q => ∃ z', TOf S z' PW.noX we σ H Q) hc hN hi (blkOk_by ok)
    (fun s H C cl fp => ⟨fun pins s' σ H v u Q I r ⟨z', q⟩ => (hg s _ C cl fp z').run pins s' σ H v u Q I r q⟩)
    (fun s H C cl fp => ⟨fun pins s' σ H Q I ⟨z', q⟩ => (ht s _ C cl fp z').run pins s' σ H Q I q⟩)
    (fun s H C cl fp => ⟨fun pins s' σ H Q I ⟨z', q⟩ => (he s _ C cl fp z').run pins s' σ H Q I q⟩) hs) fun _ _ _ h => tLcOf hts h
/-- name = [..], name a local on the same line -/
theorem ss_setLc {vs : List V} {elt tg iter : Expr} {ifs : List Expr} {scope : Scope} {own : List (Str × Nat)} {ts : List Nat} {wi : PW.WI} {g : PW.WG} {tt : PW.WT} {we : PW.WE} (i : Nat) {y : Str} {py spos : Pos} (hN : X.N.Nodup) (hi : SI S z ex X tg iter wi) (ok : blkC X.N X.env.scope scope own = true)
    (hg : ∀ (s : Shared) (H : Hp) (C : Addr) (cl : List (Str × Addr)) (fp : List Addr) (z' : Z), SG S z' (X.blk s H scope (compEnvC scope cl C X.env) fp) ts tg g)
    (ht : ∀ (s : Shared) (H : Hp) (C : Addr) (cl : List (Str × Addr)) (fp : List Addr) (z' : Z), SP1 S z' (X.blk s H scope (compEnvC scope cl C X.env) fp) ifs tt)
    (he : ∀ (s : Shared) (H : Hp) (C : Addr) (cl : List (Str × Addr)) (fp : List Addr) (z' : Z), SE S z' PW.noX (X.blk s H scope (compEnvC scope cl C X.env) fp) elt we)
    (hy : X.N[i]? = some y := by rfl) (hyl : X.env.scope.names.lookup y = some .local := by rfl) (hsw : swapsWith (.ListComp elt [⟨tg, iter, ifs, 0⟩] scope pos) (some (.Name y py)) spos.line X.env = pure true := by exact sw_true rfl rfl rfl (by decide +kernel))
    (hts : ∀ i ∈ ts, i ∈ own.map (·.2) := by decide) (hc : X.calm = true := by rfl) (hs : ∀ x, foldedSetIterable iter X.env x = pure x := by intro _; rfl) :
    SS S z vs ex X (.Assign [.Name y py] (.ListComp elt [⟨tg, iter, ifs, 0⟩] scope pos) spos) (PW.sNew i (PW.nLc (own.map (·.2)) wi g tt we)) :=
  ps_imp (ps_setLc (g := fun v σ H Q => ∃ z', GOf S z' ts g v σ H Q) (tt := fun σ H Q => ∃ z', TTOf S z' PW.noX tt σ H Q) (te := fun σ H Q => ∃ z', TOf S z' PW.noX we σ H Q) hc hN hy hyl hsw hi (blkOk_by ok)
    (fun s H C cl fp => ⟨fun pins s' σ H v u Q I r ⟨z', q⟩ => (hg s _ C cl fp z').run pins s' σ H v u Q I r q⟩)
    (fun s H C cl fp => ⟨fun pins s' σ H Q I ⟨z', q⟩ => (ht s _ C cl fp z').run pins s' σ H Q I q⟩)
    (fun s H C cl fp => ⟨fun pins s' σ H Q I ⟨z', q⟩ => (he s _ C cl fp z').run pins s' σ H Q I q⟩) hs) fun D σ H h => by
    obtain ⟨G, ρ, E, ok, h, en⟩ := h
    exact tLcOf hts ⟨G, ρ, _, ok, h, fun a H' G' ρ' d ok' sg N h' => en.nx G' _ _ H' (ok'.setOw h'.1 N) sg h'.2⟩
end
end PS
end

section
set_option Elab.async false
set_option linter.all false
set_option maxRecDepth 100000
set_option maxHeartbeats 4000000
/-! PS9: calls. -/
namespace PS
open PySem PySem.Spec L2
open PyProof.Rows hiding St
/-! ### calls where what is raised is wished for at the caller's slots -/
section
variable {X : Cx} {CX : CXT} {k : Nat} {f C : Addr} {fd : FuncData} {ps : List Str} {sp : Sp} {dvs : List V} {ds : List Value} {E : St → XK} {x m : Str} {p pos apos : Pos} {e o : Expr} {es : List Expr} {ta : TE} {t : TA}
def tMethSD (C : Addr) (m : Str) (sp : Sp) (dvs : List V) (E : St → XK) (ta : TE) (t : TA) : TE := fun σ H Q => ta σ H fun x H1 => ∃ a dx fs, x = .ref a ∧ H1 a = some (.ins C dx fs) ∧ fs.lookup m = none ∧
  t σ H1 fun vs H2 => sp (x :: (vs ++ dvs)) H2 Q (E σ)
def tMakeSD (C : Addr) (sp : Sp) (dvs : List V) (E : St → XK) (t : TA) : TE := fun σ H Q => t σ H fun vs H1 => ∀ x dx, H1 x = none → H1 dx = none → dx ≠ x →
  sp (.ref x :: (vs ++ dvs)) (upd (upd H1 dx (.own x)) x (.ins C dx [])) (fun v H2 => v = .non ∧ Q (.ref x) H2) (E σ)
theorem pe_call0SD (F : FnOk X.prog X.w X.K X.mg X.base CX k f fd ps sp) (hr : Room k X.A) (hg : Gl X x) (hm : X.mg x = some (.ref f)) (hk : PySem.W.keepIn X.K (.ref f) = true) (hb : Binds X.K fd ps ds) (hd : Vals dvs ds) (hx : ∀ σ, PassesAt CX X σ (E σ))
    (hdb : (x == ("__debug__" : Str)) = false := by decide) : PE X (.Call (.Name x p) [] [] pos) (tCallSD sp dvs E tNil) := by
  refine ⟨fun pins s σ H Q I h => ?_⟩
  refine wpAny_Call_Name_kw (ld_glob I hg hm ?_ hdb)
  exact PySem.W.callWith_K0 I.kIn hk (run_fnSD (us := []) F hr hb hd (hx σ) I .nil h)
theorem pe_methSD {pl : Sem Bool} (he : PE X o ta) (c : Cls X.K C) (hm : Meth X.K C m f) (F : FnOk X.prog X.w X.K X.mg X.base CX k f fd ps sp) (hr : Room k X.A) (hb : Binds X.K fd ps ds) (hd : Vals dvs ds) (hx : ∀ σ, PassesAt CX X σ (E σ)) (ha : PA X (e :: es) t)
    (hst : starEach (e :: es) X.env = (false, eval e X.env) :: starEach es X.env := by rfl) (hpl : (backTo pos (starEach es X.env)).any (·.1) = false := by rfl)
    (ht : eval (.Call (.Attribute o m apos) (e :: es) [] pos) X.env = (do
      let ov ← eval o X.env
      standAt apos.atName
      let (f, first) ← holding [ov] (getMethod ov m pl)
      callWith pos f first (backTo pos (starEach (e :: es) X.env)) (backToKw pos (keywordEach [] X.env))) := by rfl) :
    PE X (.Call (.Attribute o m apos) (e :: es) [] pos) (tMethSD C m sp dvs E ta t) := by
  refine ⟨fun pins s σ H Q I h => ?_⟩
  refine PySem.W.methodCall_KW (pl := pl) (thn (he.run pins s σ H _ I h) fun u s1 ⟨x, H1, I1, rx, a, dx, fs, ex, ea, l, q⟩ => ?_) ht
  subst ex
  obtain rfl : u = Value.ref a := rx
  refine getmeth_ok I1 ea c hm l ?_
  refine PySem.W.callWith_K (first := [.ref a]) (h₀ := X.base) I.ok.mod.kin hm.kp (thn (ha.run pos pins s1 σ H1 _ I1 q) fun us s2 ⟨vs, H2, I2, r, q2⟩ => ⟨I2.kIn, ?_⟩) hst hpl
  exact run_fnSD (us := .ref a :: us) (vs := .ref a :: vs) F hr hb hd (hx σ) I2 (.cons rfl r) q2
theorem pe_meth0SD {pl : Sem Bool} (he : PE X o ta) (c : Cls X.K C) (hm : Meth X.K C m f) (F : FnOk X.prog X.w X.K X.mg X.base CX k f fd ps sp) (hr : Room k X.A) (hb : Binds X.K fd ps ds) (hd : Vals dvs ds) (hx : ∀ σ, PassesAt CX X σ (E σ))
    (ht : eval (.Call (.Attribute o m apos) [] [] pos) X.env = (do
      let ov ← eval o X.env
      standAt apos.atName
      let (f, first) ← holding [ov] (getMethod ov m pl)
      callWith pos f first (backTo pos (starEach [] X.env)) (backToKw pos (keywordEach [] X.env))) := by rfl) :
    PE X (.Call (.Attribute o m apos) [] [] pos) (tMethSD C m sp dvs E ta tNil) := by
  refine ⟨fun pins s σ H Q I h => ?_⟩
  refine PySem.W.methodCall_KW (pl := pl) (thn (he.run pins s σ H _ I h) fun u s1 ⟨x, H1, I1, rx, a, dx, fs, ex, ea, l, q⟩ => ?_) ht
  subst ex
  obtain rfl : u = Value.ref a := rx
  refine getmeth_ok I1 ea c hm l ?_
  exact PySem.W.callWith_K0 (first := [.ref a]) I1.kIn hm.kp (run_fnSD (us := [.ref a]) (vs := [.ref a]) F hr hb hd (hx σ) I1 (.cons rfl .nil) q)
theorem run_makeSD {pins : List (Addr × Obj)} {σ : St} {H : Hp} {s : Shared} {Q : VK} {us : List Value} {vs : List V} (M : Mk X.K C f) (F : FnOk X.prog X.w X.K X.mg X.base CX k f fd ps sp) (hr : Room (k + 1) X.A) (hb : Binds X.K fd ps ds) (hd : Vals dvs ds)
    (hx : PassesAt CX X σ (E σ)) (I : Inv X pins σ H s) (r : Vals vs us)
    (h : ∀ x dx, H x = none → H dx = none → dx ≠ x → sp (.ref x :: (vs ++ dvs)) (upd (upd H dx (.own x)) x (.ins C dx [])) (fun v H2 => v = .non ∧ Q (.ref x) H2) (E σ)) :
    wpAny (model X.prog X.w) X.A (call (.ref C) us) (EP X pins σ Q) X.xe s := by
  have hq := h (s.heap.objs.size + 1) s.heap.objs.size (I.hok.fresh (Nat.le_succ _)) (I.hok.fresh (Nat.le_refl _)) (Nat.ne_of_lt (Nat.lt_succ_self _))
  have I2 := Inv.made (C := C) I
  have r2 : Vals (V.ref (s.heap.objs.size + 1) :: (vs ++ dvs)) (Value.ref (s.heap.objs.size + 1) :: (us ++ ds)) := .cons rfl (r.append hd)
  have hl : (Value.ref (s.heap.objs.size + 1) :: us ++ ds).length = ps.length := by
    have e := r2.length
    rw [F.len _ _ _ _ hq] at e
    exact e.symm
  refine wpAny_call (make_map (f := f) I.kIn M.makes M.init (beq_iff_eq.mp M.fn) (codeAny_mono (F.run _ X.stack _ _ ⟨Value.ref (s.heap.objs.size + 1) :: us, []⟩ (Value.ref (s.heap.objs.size + 1) :: (us ++ ds)) _ _ (E σ) (hr.make C us [])
    (I2.env0.make C us []) (hb _ (Value.ref (s.heap.objs.size + 1) :: us) I2.kIn hl) r2 hq) fun r s' hq' => ?_))
  cases r with
  | error e => exact hx pins _ _ e s' I2 hq'
  | ok fl =>
    cases fl with
    | ret u =>
      obtain ⟨v, H', I3, rv, ev, q3⟩ := I2.after hq'
      subst ev
      exact ⟨rv, ⟨V.ref (s.heap.objs.size + 1), H', I3, rfl, q3⟩⟩
    | next => exact False.elim hq'
    | brk => exact False.elim hq'
    | cont => exact False.elim hq'
theorem pe_makeSD (M : Mk X.K C f) (F : FnOk X.prog X.w X.K X.mg X.base CX k f fd ps sp) (hr : Room (k + 1) X.A) (hg : Gl X x) (hm : X.mg x = some (.ref C)) (hb : Binds X.K fd ps ds) (hd : Vals dvs ds) (hx : ∀ σ, PassesAt CX X σ (E σ))
    (ha : PA X (e :: es) t) (hdb : (x == ("__debug__" : Str)) = false := by decide) (he : starEach (e :: es) X.env = (false, eval e X.env) :: starEach es X.env := by rfl) (hpl : (backTo pos (starEach es X.env)).any (·.1) = false := by rfl) :
    PE X (.Call (.Name x p) (e :: es) [] pos) (tMakeSD C sp dvs E t) := by
  refine ⟨fun pins s σ H Q I h => ?_⟩
  refine wpAny_Call_Name_kw (ld_glob I hg hm ?_ hdb)
  refine PySem.W.callWith_K (h₀ := X.base) I.ok.mod.kin M.kp (thn (ha.run pos pins s σ H _ I h) fun us s1 ⟨vs, H1, I1, r, q⟩ => ⟨I1.kIn, ?_⟩) he hpl
  exact run_makeSD M F hr hb hd (hx σ) I1 r q
end
/-! ### a def's promise -/
/-- how an error stands: its class, its fields -/
structure ExnOk (S : Stat) (G H : Hp) (cls : Value) (d : Option Addr) (e : PW.Exn) : Prop where
  cl : ∃ C, cls = .ref C ∧ S.cls e.cls = some C
  fs : e.fs = [] ∨ ∃ a fs, d = some a ∧ H a = some (.xd fs) ∧ RepF S G fs e.fs
def zc (S : Stat) (G H : Hp) (vs : List V) (ss : List PW.Sl) : Z :=
  ⟨G, H, fun i a => (∃ d, ss[i]? = some (PW.Sl.bo d)) ∧ vs[i]? = some (V.ref a), fun _ => False, fun a => ∃ (i : Nat) (d : PW.D), ss[i]? = some (PW.Sl.rd d) ∧ vs[i]? = some (V.ref a) ∧ ¬ Rep S G (.ref a) d⟩
/-- behind a def: G', H' the heaps; os what the arguments came to -/
structure After (S : Stat) (G H : Hp) (vs : List V) (ss : List PW.Sl) (G' H' : Hp) (os : List PW.Sl) : Prop where
  grow : Same G G'
  same : Same G' H'
  old : ∀ a o, H a = some o → G a = none → G' a = none
  keep : ∀ a o, H a = some o → ¬ (zc S G H vs ss).B a → H' a = some o
  out : ∀ i a, (zc S G H vs ss).bo i a → ∃ d o, os[i]? = some (PW.Sl.bo d) ∧ H' a = some o ∧ Own S G' a o d
def spOf (S : Stat) (φ : PW.FSpec) : Sp := fun vs H Q E => ∃ G ss q e, EnvOk S (zc S G H vs ss) G ss (vs.map some) H ∧ φ ss q e ∧
  (∀ v H' G' os r, After S G H vs ss G' H' os → RetOk S G' H' H vs r v → q r os → Q v H') ∧
  (∀ cls d H' G' os en, After S G H vs ss G' H' os → ExnOk S G' H' cls d en → e en os → E cls d H')
/-- what is wanted of an error, by the slots -/
def WOf (S : Stat) (z : Z) (ex : PW.XC) : WX := fun cls d σ H => ∃ G ρ e, EnvOk S z G ρ σ H ∧ ExnOk S G H cls d e ∧ ex e ρ
theorem tk_no {S : Stat} {X : Cx} {z : Z} : Takes X (WOf S z PW.noX) := (takes0 (X := X)).imp fun c d σ H ⟨_, _, _, _, _, h⟩ => h
end PS
end

section
set_option Elab.async false
set_option linter.all false
set_option maxRecDepth 100000
set_option maxHeartbeats 4000000
/-! PS10: arguments lent, and what comes back. -/
namespace PS
open PySem PySem.Spec L2
open PyProof.Rows hiding St
inductive ArsOk (S : Stat) (G : Hp) (σ : St) : List V → List PW.Ar → Prop
  | nil : ArsOk S G σ [] []
  | v {v : V} {d : PW.D} {vs : List V} {as : List PW.Ar} : Rep S G v d → ArsOk S G σ vs as → ArsOk S G σ (v :: vs) (.v d :: as)
  | b {v : V} {i : Nat} {vs : List V} {as : List PW.Ar} : σ[i]? = some (some v) → ArsOk S G σ vs as → ArsOk S G σ (v :: vs) (.b i :: as)
  | r {v : V} {i : Nat} {vs : List V} {as : List PW.Ar} : σ[i]? = some (some v) → ArsOk S G σ vs as → ArsOk S G σ (v :: vs) (.r i :: as)
section
variable {S : Stat} {G : Hp} {σ : St}
theorem ArsOk.mono {G' : Hp} (e : Same G G') {vs : List V} {as : List PW.Ar} (h : ArsOk S G σ vs as) : ArsOk S G' σ vs as := by
  induction h with
  | nil => exact .nil
  | v r _ ih => exact .v (r.mono e) ih
  | b r _ ih => exact .b r ih
  | r r _ ih => exact .r r ih
theorem ArsOk.len {vs : List V} {as : List PW.Ar} (h : ArsOk S G σ vs as) : vs.length = as.length := by
  induction h with
  | nil => rfl
  | v _ _ ih => simp [ih]
  | b _ _ ih => simp [ih]
  | r _ _ ih => simp [ih]
theorem ArsOk.get {vs : List V} {as : List PW.Ar} (h : ArsOk S G σ vs as) : ∀ {k : Nat} {a : PW.Ar}, as[k]? = some a → ∃ v, vs[k]? = some v ∧ match a with
    | .v d => Rep S G v d
    | .b i => σ[i]? = some (some v)
    | .r i => σ[i]? = some (some v) := by
  induction h with
  | nil => intro k a e; simp at e
  | v r _ ih => intro k a e; cases k with
    | zero => simp at e; subst e; exact ⟨_, rfl, r⟩
    | succ k => simp at e; obtain ⟨v, h1, h2⟩ := ih e; exact ⟨v, by simpa using h1, h2⟩
  | b r _ ih => intro k a e; cases k with
    | zero => simp at e; subst e; exact ⟨_, rfl, r⟩
    | succ k => simp at e; obtain ⟨v, h1, h2⟩ := ih e; exact ⟨v, by simpa using h1, h2⟩
  | r r _ ih => intro k a e; cases k with
    | zero => simp at e; subst e; exact ⟨_, rfl, r⟩
    | succ k => simp at e; obtain ⟨v, h1, h2⟩ := ih e; exact ⟨v, by simpa using h1, h2⟩
theorem ArsOk.app {vs ws : List V} {as bs : List PW.Ar} (h : ArsOk S G σ vs as) (k : ArsOk S G σ ws bs) : ArsOk S G σ (vs ++ ws) (as ++ bs) := by
  induction h with
  | nil => exact k
  | v r _ ih => exact .v r ih
  | b r _ ih => exact .b r ih
  | r r _ ih => exact .r r ih
theorem ArsOk.ofL {vs : List V} {ds : List PW.D} (h : RepL S G vs ds) : ArsOk S G σ vs (ds.map PW.Ar.v) := by
  induction ds generalizing vs with
  | nil => cases h; exact .nil
  | cons d ds ih => cases h with
    | cons a b => exact .v a (ih b)
end
/-- what an argument becomes in the def -/
def Lent (ρ : PW.Env) : PW.Ar → PW.Sl → Prop
  | .v d, sl => sl = .sh d
  | .b i, sl => ∃ d, sl = .bo d ∧ (ρ[i]? = some (.ow d) ∨ ρ[i]? = some (.bo d))
  | .r i, sl => ∃ d, sl = .rd d ∧ (ρ[i]? = some (.sh d) ∨ ρ[i]? = some (.ow d) ∨ ρ[i]? = some (.bo d) ∨ ρ[i]? = some (.rd d))
theorem lent_get {ρ : PW.Env} : ∀ {as : List PW.Ar} {ss : List PW.Sl}, PW.lent ρ as = some ss → ss.length = as.length ∧ ∀ (k : Nat) (a : PW.Ar), as[k]? = some a → ∃ sl, ss[k]? = some sl ∧ Lent ρ a sl
  | [], ss, h => by cases h; exact ⟨rfl, fun k a e => by simp at e⟩
  | a :: as, ss, h => by
    have main : ∀ (sl : PW.Sl) (r : Option (List PW.Sl)), r = PW.lent ρ as → r.map (sl :: ·) = some ss → Lent ρ a sl → ss.length = (a :: as).length ∧ ∀ (k : Nat) (a' : PW.Ar), (a :: as)[k]? = some a' → ∃ sl, ss[k]? = some sl ∧ Lent ρ a' sl := fun sl r hr h1 h2 => by
      obtain ⟨ss', e1, rfl⟩ := Option.map_eq_some_iff.mp h1
      obtain ⟨l, g⟩ := lent_get (hr.symm.trans e1)
      refine ⟨by simp [l], fun k a' e => ?_⟩
      cases k with
      | zero => simp at e; subst e; exact ⟨sl, rfl, h2⟩
      | succ k => simp at e; obtain ⟨sl', e2, e3⟩ := g k a' e; exact ⟨sl', by simpa using e2, e3⟩
    cases a with
    | v d => exact main _ _ rfl h rfl
    | b i =>
      unfold PW.lent at h
      cases e : ρ[i]? with
      | none => rw [e] at h; cases h
      | some sl =>
        rw [e] at h
        cases sl with
        | ow d => exact main _ _ rfl h ⟨d, rfl, .inl e⟩
        | bo d => exact main _ _ rfl h ⟨d, rfl, .inr e⟩
        | un => cases h
        | sh d => cases h
        | rd d => cases h
    | r i =>
      unfold PW.lent at h
      cases e : ρ[i]? with
      | none => rw [e] at h; cases h
      | some sl =>
        rw [e] at h
        cases sl with
        | ow d => exact main _ _ rfl h ⟨d, rfl, .inr (.inl e)⟩
        | bo d => exact main _ _ rfl h ⟨d, rfl, .inr (.inr (.inl e))⟩
        | un => cases h
        | sh d => exact main _ _ rfl h ⟨d, rfl, .inl e⟩
        | rd d => exact main _ _ rfl h ⟨d, rfl, .inr (.inr (.inr e))⟩
theorem mem_lentB {as : List PW.Ar} {k i : Nat} (h : as[k]? = some (.b i)) : i ∈ PW.lentB as := by
  induction as generalizing k with
  | nil => simp at h
  | cons a as ih => cases k with
    | zero => simp at h; subst h; simp [PW.lentB]
    | succ k =>
      simp at h
      cases a with
      | v d => exact ih h
      | b j => exact List.mem_cons_of_mem _ (ih h)
      | r j => exact ih h
theorem mem_lentR {as : List PW.Ar} {k i : Nat} (h : as[k]? = some (.r i)) : i ∈ PW.lentR as := by
  induction as generalizing k with
  | nil => simp at h
  | cons a as ih => cases k with
    | zero => simp at h; subst h; simp [PW.lentR]
    | succ k =>
      simp at h
      cases a with
      | v d => exact ih h
      | b j => exact ih h
      | r j => exact List.mem_cons_of_mem _ (ih h)
theorem lentB_inj {as : List PW.Ar} (hn : (PW.lentB as).Nodup) {k l i : Nat} (h : as[k]? = some (.b i)) (h' : as[l]? = some (.b i)) : k = l := by
  induction as generalizing k l with
  | nil => simp at h
  | cons a as ih =>
    cases a with
    | v d => cases k with
      | zero => simp at h
      | succ k => cases l with
        | zero => simp at h'
        | succ l => simp at h h'; rw [ih hn h h']
    | r d => cases k with
      | zero => simp at h
      | succ k => cases l with
        | zero => simp at h'
        | succ l => simp at h h'; rw [ih hn h h']
    | b j =>
      have hn2 : j ∉ PW.lentB as ∧ (PW.lentB as).Nodup := List.nodup_cons.mp hn
      cases k with
      | zero => cases l with
        | zero => rfl
        | succ l => simp at h h'; subst h; exact absurd (mem_lentB h') hn2.1
      | succ k => cases l with
        | zero => simp at h h'; subst h'; exact absurd (mem_lentB h) hn2.1
        | succ l => simp at h h'; rw [ih hn2.2 h h']
/-- what was lent, as it came back, slot by slot -/
theorem back_get {ρ0 : PW.Env} : ∀ {as : List PW.Ar} {os : List PW.Sl} {ρ : PW.Env}, (PW.lentB as).Nodup → (PW.back as os ρ).length = ρ.length ∧
    (∀ j : Nat, j ∉ PW.lentB as → (PW.back as os ρ)[j]? = ρ[j]?) ∧
    (∀ (k j : Nat) (d' : PW.D), as[k]? = some (PW.Ar.b j) → os[k]? = some (PW.Sl.bo d') → (∀ d : PW.D, ρ[j]? = some (PW.Sl.ow d) → (PW.back as os ρ)[j]? = some (PW.Sl.ow d')) ∧ ∀ d : PW.D, ρ[j]? = some (PW.Sl.bo d) → (PW.back as os ρ)[j]? = some (PW.Sl.bo d'))
  | [], [], ρ, _ => ⟨rfl, fun _ _ => rfl, fun k j d' e => by simp at e⟩
  | [], _ :: _, _, _ => ⟨rfl, fun _ _ => rfl, fun k j d' e => by simp at e⟩
  | a :: as, [], ρ, _ => by
    have e : PW.back (a :: as) [] ρ = ρ := by cases a <;> rfl
    rw [e]; exact ⟨rfl, fun _ _ => rfl, fun k j d' _ e => by simp at e⟩
  | a :: as, o :: os, ρ, hn => by
    cases a with
    | v d =>
      obtain ⟨h1, h2, h3⟩ := back_get (ρ0 := ρ0) (as := as) (os := os) (ρ := ρ) hn
      refine ⟨h1, h2, fun k j d' e1 e2 => ?_⟩
      cases k with
      | zero => simp at e1
      | succ k => exact h3 k j d' (by simpa using e1) (by simpa using e2)
    | r d =>
      obtain ⟨h1, h2, h3⟩ := back_get (ρ0 := ρ0) (as := as) (os := os) (ρ := ρ) hn
      refine ⟨h1, h2, fun k j d' e1 e2 => ?_⟩
      cases k with
      | zero => simp at e1
      | succ k => exact h3 k j d' (by simpa using e1) (by simpa using e2)
    | b i =>
      have hn2 : i ∉ PW.lentB as ∧ (PW.lentB as).Nodup := List.nodup_cons.mp hn
      -- the slot that is set here
      have key : ∀ ρ1 : PW.Env, ρ1.length = ρ.length → (∀ j : Nat, j ≠ i → ρ1[j]? = ρ[j]?) → PW.back (.b i :: as) (o :: os) ρ = PW.back as os ρ1 →
          (∀ d' : PW.D, o = PW.Sl.bo d' → (∀ d : PW.D, ρ[i]? = some (PW.Sl.ow d) → ρ1[i]? = some (PW.Sl.ow d')) ∧ ∀ d : PW.D, ρ[i]? = some (PW.Sl.bo d) → ρ1[i]? = some (PW.Sl.bo d')) →
          (PW.back (.b i :: as) (o :: os) ρ).length = ρ.length ∧ (∀ j : Nat, j ∉ PW.lentB (.b i :: as) → (PW.back (.b i :: as) (o :: os) ρ)[j]? = ρ[j]?) ∧
          (∀ (k j : Nat) (d' : PW.D), (PW.Ar.b i :: as)[k]? = some (PW.Ar.b j) → (o :: os)[k]? = some (PW.Sl.bo d') → (∀ d : PW.D, ρ[j]? = some (PW.Sl.ow d) → (PW.back (.b i :: as) (o :: os) ρ)[j]? = some (.ow d')) ∧ ∀ d : PW.D, ρ[j]? = some (PW.Sl.bo d) → (PW.back (.b i :: as) (o :: os) ρ)[j]? = some (.bo d')) := fun ρ1 l1 s1 e0 r1 => by
        obtain ⟨h1, h2, h3⟩ := back_get (ρ0 := ρ0) (as := as) (os := os) (ρ := ρ1) hn2.2
        rw [e0]
        refine ⟨h1.trans l1, fun j hj => ?_, fun k j d' e1 e2 => ?_⟩
        · have hj2 : j ≠ i ∧ j ∉ PW.lentB as := by simpa [PW.lentB] using hj
          rw [h2 j hj2.2, s1 j hj2.1]
        · cases k with
          | zero =>
            simp at e1 e2
            subst e1 e2
            rw [h2 i hn2.1]
            exact r1 d' rfl
          | succ k =>
            have e1' : as[k]? = some (.b j) := by simpa using e1
            have ji : j ≠ i := fun e => hn2.1 (e ▸ mem_lentB e1')
            obtain ⟨q1, q2⟩ := h3 k j d' e1' (by simpa using e2)
            exact ⟨fun d e => q1 d (by rw [s1 j ji]; exact e), fun d e => q2 d (by rw [s1 j ji]; exact e)⟩
      cases e : ρ[i]? with
      | none =>
        refine key ρ rfl (fun _ _ => rfl) (by simp only [PW.back, e]) fun d' _ => ⟨fun d q => ?_, fun d q => ?_⟩ <;> (rw [e] at q; cases q)
      | some sl =>
        cases sl with
        | ow d =>
          cases o with
          | bo d' =>
            refine key (ρ.set i (.ow d')) (List.length_set ..) (fun j hj => List.getElem?_set_ne (Ne.symm hj)) (by simp only [PW.back, e]) fun d2 e2 => ⟨fun d q => ?_, fun d q => ?_⟩
            · cases e2; exact get_set_self e
            · rw [e] at q; cases q
          | _ => exact key ρ rfl (fun _ _ => rfl) (by simp only [PW.back, e]) fun d' q => nomatch q
        | bo d =>
          cases o with
          | bo d' =>
            refine key (ρ.set i (.bo d')) (List.length_set ..) (fun j hj => List.getElem?_set_ne (Ne.symm hj)) (by simp only [PW.back, e]) fun d2 e2 => ⟨fun d q => ?_, fun d q => ?_⟩
            · rw [e] at q; cases q
            · cases e2; exact get_set_self e
          | _ => exact key ρ rfl (fun _ _ => rfl) (by simp only [PW.back, e]) fun d' q => nomatch q
        | un => refine key ρ rfl (fun _ _ => rfl) (by simp only [PW.back, e]) fun d' _ => ⟨fun d q => ?_, fun d q => ?_⟩ <;> (rw [e] at q; cases q)
        | sh d => refine key ρ rfl (fun _ _ => rfl) (by simp only [PW.back, e]) fun d' _ => ⟨fun d q => ?_, fun d q => ?_⟩ <;> (rw [e] at q; cases q)
        | rd d => refine key ρ rfl (fun _ _ => rfl) (by simp only [PW.back, e]) fun d' _ => ⟨fun d q => ?_, fun d q => ?_⟩ <;> (rw [e] at q; cases q)
end PS
end

section
set_option Elab.async false
set_option linter.all false
set_option maxRecDepth 100000
set_option maxHeartbeats 4000000
/-! PS11: into a call and out of it. -/
namespace PS
open PySem PySem.Spec L2
open PyProof.Rows hiding St
section
variable {S : Stat} {z : Z} {G G' : Hp} {ρ : PW.Env} {σ : St} {H H' : Hp} {vs : List V} {as : List PW.Ar} {ss os : List PW.Sl}
theorem lentOk_nd (h : PW.lentOk as = true) : (PW.lentB as).Nodup := by
  unfold PW.lentOk at h
  simp only [Bool.and_eq_true, decide_eq_true_eq] at h
  exact h.1
theorem lentOk_ap (h : PW.lentOk as = true) {k l i j : Nat} (h1 : as[k]? = some (.r i)) (h2 : as[l]? = some (.b j)) : i ≠ j := by
  unfold PW.lentOk at h
  simp only [Bool.and_eq_true, List.all_eq_true, Bool.not_eq_true', List.contains_eq_mem, decide_eq_false_iff_not] at h
  rintro rfl
  exact h.2 i (mem_lentR h1) (mem_lentB h2)
theorem owned_of {i : Nat} {d : PW.D} (h : ρ[i]? = some (.ow d) ∨ ρ[i]? = some (.bo d)) : owned ρ i := h.imp (fun h => ⟨d, h⟩) fun h => ⟨d, h⟩
/-- a slot of the def: its argument -/
theorem lent_at (hl : PW.lent ρ as = some ss) {k : Nat} {sl : PW.Sl} (h : ss[k]? = some sl) : ∃ a, as[k]? = some a ∧ Lent ρ a sl := by
  obtain ⟨l, g⟩ := lent_get hl
  have hk : k < as.length := by rw [← l]; exact (List.getElem?_eq_some_iff.mp h).1
  obtain ⟨sl', e1, e2⟩ := g k _ (List.getElem?_eq_getElem hk)
  rw [h] at e1; cases e1
  exact ⟨_, List.getElem?_eq_getElem hk, e2⟩
theorem lent_bo (A : ArsOk S G σ vs as) (hl : PW.lent ρ as = some ss) {k : Nat} {d : PW.D} (h : ss[k]? = some (.bo d)) : ∃ i v, as[k]? = some (.b i) ∧ vs[k]? = some v ∧ σ[i]? = some (some v) ∧ (ρ[i]? = some (.ow d) ∨ ρ[i]? = some (.bo d)) := by
  obtain ⟨a, ea, la⟩ := lent_at hl h
  cases a with
  | v d' => cases la
  | r i => obtain ⟨_, q, _⟩ := la; cases q
  | b i =>
    obtain ⟨d', q, w⟩ := la
    cases q
    obtain ⟨v, e1, e2⟩ := A.get ea
    exact ⟨i, v, ea, e1, e2, w⟩
theorem lent_rd (A : ArsOk S G σ vs as) (hl : PW.lent ρ as = some ss) {k : Nat} {d : PW.D} (h : ss[k]? = some (.rd d)) : ∃ i v, as[k]? = some (.r i) ∧ vs[k]? = some v ∧ σ[i]? = some (some v) ∧ (ρ[i]? = some (.sh d) ∨ ρ[i]? = some (.ow d) ∨ ρ[i]? = some (.bo d) ∨ ρ[i]? = some (.rd d)) := by
  obtain ⟨a, ea, la⟩ := lent_at hl h
  cases a with
  | v d' => cases la
  | b i => obtain ⟨_, q, _⟩ := la; cases q
  | r i =>
    obtain ⟨d', q, w⟩ := la
    cases q
    obtain ⟨v, e1, e2⟩ := A.get ea
    exact ⟨i, v, ea, e1, e2, w⟩
/-- what the def may change is a slot's own -/
theorem zcB (E : EnvOk S z G ρ σ H) (A : ArsOk S G σ vs as) (hl : PW.lent ρ as = some ss) {a : Addr} (h : (zc S G H vs ss).B a) : ∃ (k i : Nat) (d : PW.D), as[k]? = some (.b i) ∧ ss[k]? = some (.bo d) ∧ vs[k]? = some (.ref a) ∧ σ[i]? = some (some (.ref a)) ∧ (ρ[i]? = some (.ow d) ∨ ρ[i]? = some (.bo d)) := by
  obtain ⟨k, ⟨d, e1⟩, e2⟩ := h
  obtain ⟨i, v, h1, h2, h3, h4⟩ := lent_bo A hl e1
  rw [e2] at h2; cases h2
  exact ⟨k, i, d, h1, e1, e2, h3, h4⟩
theorem EnvOk.enter (E : EnvOk S z G ρ σ H) (A : ArsOk S G σ vs as) (ok : PW.lentOk as = true) (hl : PW.lent ρ as = some ss) : EnvOk S (zc S G H vs ss) G ss (vs.map some) H := by
  have get : ∀ {k : Nat} {v : V}, vs[k]? = some v → (vs.map some)[k]? = some (some v) := fun {k v} e => by rw [List.getElem?_map, e]; rfl
  have own : ∀ {k : Nat}, owned ss k → ∃ d, ss[k]? = some (.bo d) := fun {k} o => by
    rcases o with ⟨d, e⟩ | o
    · obtain ⟨a, _, la⟩ := lent_at hl e
      cases a with
      | v d' => cases la
      | b i => obtain ⟨_, q, _⟩ := la; cases q
      | r i => obtain ⟨_, q, _⟩ := la; cases q
    · exact o
  refine ⟨E.same, Same.refl G, fun a o _ g _ => g, fun a o h _ _ => h, ?_, fun k sl e => ?_, fun j k a ne oj ok' ej ek => ?_, fun k a q => ?_, fun k d e => ?_, fun a q => ?_⟩
  · rw [List.length_map, (lent_get hl).1, A.len]
  · obtain ⟨a, ea, la⟩ := lent_at hl e
    obtain ⟨v, e1, e2⟩ := A.get ea
    cases a with
    | v d =>
      obtain rfl : sl = .sh d := la
      exact ⟨v, get e1, e2⟩
    | r i => obtain ⟨d, rfl, _⟩ := la; trivial
    | b i =>
      obtain ⟨d, rfl, w⟩ := la
      have main : ∃ a o, σ[i]? = some (some (.ref a)) ∧ H a = some o ∧ Own S G a o d ∧ G a = none := by
        rcases w with w | w
        · obtain ⟨a, o, x1, x2, x3, x4, _⟩ := E.slot i _ w; exact ⟨a, o, x1, x2, x3, x4⟩
        · obtain ⟨a, o, x1, x2, x3, x4, _⟩ := E.slot i _ w; exact ⟨a, o, x1, x2, x3, x4⟩
      obtain ⟨a, o, x1, x2, x3, x4⟩ := main
      have e2' : σ[i]? = some (some v) := e2
      rw [x1] at e2'; cases e2'
      exact ⟨a, o, get e1, x2, x3, x4, ⟨d, e⟩, e1⟩
  · obtain ⟨d1, h1⟩ := own oj
    obtain ⟨d2, h2⟩ := own ok'
    obtain ⟨i1, v1, a1, b1, c1, w1⟩ := lent_bo A hl h1
    obtain ⟨i2, v2, a2, b2, c2, w2⟩ := lent_bo A hl h2
    rw [get b1] at ej; rw [get b2] at ek
    cases ej; cases ek
    refine E.apart i1 i2 a (fun e => ?_) (owned_of w1) (owned_of w2) c1 c2
    subst e
    exact ne (lentB_inj (lentOk_nd ok) a1 a2)
  · obtain ⟨⟨d, e⟩, e2⟩ := q
    exact ⟨get e2, d, e⟩
  · obtain ⟨i, v, h1, h2, h3, h4⟩ := lent_rd A hl e
    refine ⟨v, get h2, ?_⟩
    by_cases hr : Rep S G v d
    · exact .inl hr
    · refine .inr ?_
      have main : ∃ a o, v = .ref a ∧ H a = some o ∧ Own S G a o d := by
        rcases h4 with w | w | w | w
        · obtain ⟨v', x1, x2⟩ := E.slot i _ w; rw [h3] at x1; cases x1; exact absurd x2 hr
        · obtain ⟨a, o, x1, x2, x3, _⟩ := E.slot i _ w; rw [h3] at x1; cases x1; exact ⟨a, o, rfl, x2, x3⟩
        · obtain ⟨a, o, x1, x2, x3, _⟩ := E.slot i _ w; rw [h3] at x1; cases x1; exact ⟨a, o, rfl, x2, x3⟩
        · obtain ⟨v', x1, x2 | ⟨a, o, x2, x3, x4, _⟩⟩ := E.rds i d w
          · rw [h3] at x1; cases x1; exact absurd x2 hr
          · rw [h3] at x1; cases x1; exact ⟨a, o, x2, x3, x4⟩
      obtain ⟨a, o, rfl, x2, x3⟩ := main
      exact ⟨a, o, rfl, x2, x3, k, d, e, h2, hr⟩
  · obtain ⟨k, d, e, e2, nr⟩ := q
    obtain ⟨i, v, h1, h2, h3, h4⟩ := lent_rd A hl e
    rw [e2] at h2; cases h2
    have other : ∀ {j : Nat} {dj : PW.D}, ss[j]? = some (.bo dj) → ∃ i', i' ≠ i ∧ owned ρ i' ∧ ∀ b, (vs.map some)[j]? = some (some (.ref b)) → σ[i']? = some (some (.ref b)) := fun {j dj} hj => by
      obtain ⟨i', v', a1, b1, c1, w1⟩ := lent_bo A hl hj
      refine ⟨i', Ne.symm (lentOk_ap ok h1 a1), owned_of w1, fun b hb => ?_⟩
      rw [get b1] at hb; cases hb
      exact c1
    have fin : ((∃ d, ρ[i]? = some (.ow d)) ∨ ∃ d, ρ[i]? = some (.bo d)) → (∃ o, H a = some o) ∧ ∀ j, owned ss j → (vs.map some)[j]? ≠ some (some (.ref a)) := fun o => by
      refine ⟨E.there o h3, fun j oj ej => ?_⟩
      obtain ⟨dj, hj⟩ := own oj
      obtain ⟨i', ne, o', q⟩ := other hj
      exact E.apart i' i a ne o' o (q a ej) h3
    rcases h4 with w | w | w | w
    · obtain ⟨v', x1, x2⟩ := E.slot i _ w; rw [h3] at x1; cases x1; exact absurd x2 nr
    · exact fin (.inl ⟨d, w⟩)
    · exact fin (.inr ⟨d, w⟩)
    · obtain ⟨v', x1, x2 | ⟨b, o, x2, x3, x4, x5⟩⟩ := E.rds i d w
      · rw [h3] at x1; cases x1; exact absurd x2 nr
      · rw [h3] at x1; cases x1; cases x2
        refine ⟨⟨o, x3⟩, fun j oj ej => ?_⟩
        obtain ⟨dj, hj⟩ := own oj
        obtain ⟨i', ne, o', q⟩ := other hj
        exact (E.rdo a x5).2 i' o' (q a ej)
/-- a slot behind the call -/
theorem back_at (A : ArsOk S G σ vs as) (E : EnvOk S z G ρ σ H) (ok : PW.lentOk as = true) (hl : PW.lent ρ as = some ss) (F : After S G H vs ss G' H' os) (j : Nat) :
    (PW.back as os ρ)[j]? = ρ[j]? ∧ (∀ k : Nat, as[k]? ≠ some (.b j)) ∨ ∃ (k : Nat) (d d' : PW.D) (a : Addr) (o : HO), as[k]? = some (.b j) ∧ σ[j]? = some (some (.ref a)) ∧ H' a = some o ∧ Own S G' a o d' ∧ (ρ[j]? = some (.ow d) ∧ (PW.back as os ρ)[j]? = some (.ow d') ∨ ρ[j]? = some (.bo d) ∧ (PW.back as os ρ)[j]? = some (.bo d')) := by
  obtain ⟨_, g2, g3⟩ := back_get (ρ0 := ρ) (as := as) (os := os) (ρ := ρ) (lentOk_nd ok)
  by_cases hj : ∃ k : Nat, as[k]? = some (.b j)
  · obtain ⟨k, hk⟩ := hj
    refine .inr ?_
    obtain ⟨sl, e1, d, rfl, w⟩ := (lent_get hl).2 k _ hk
    obtain ⟨i, v, h1, h2, h3, h4⟩ := lent_bo A hl e1
    rw [hk] at h1; cases h1
    have hv : ∃ a, v = .ref a := by
      rcases w with w | w
      · obtain ⟨a, o, x1, _⟩ := E.slot j _ w; rw [h3] at x1; cases x1; exact ⟨a, rfl⟩
      · obtain ⟨a, o, x1, _⟩ := E.slot j _ w; rw [h3] at x1; cases x1; exact ⟨a, rfl⟩
    obtain ⟨a, rfl⟩ := hv
    obtain ⟨d', o, q1, q2, q3⟩ := F.out k a ⟨⟨d, e1⟩, h2⟩
    obtain ⟨r1, r2⟩ := g3 k j d' hk q1
    exact ⟨k, d, d', a, o, hk, h3, q2, q3, w.imp (fun w => ⟨w, r1 d w⟩) fun w => ⟨w, r2 d w⟩⟩
  · refine .inl ⟨g2 j fun hm => ?_, fun k hk => hj ⟨k, hk⟩⟩
    have : ∀ {as : List PW.Ar}, j ∈ PW.lentB as → ∃ k : Nat, as[k]? = some (.b j) := fun {as} => by
      induction as with
      | nil => intro h; cases h
      | cons a as ih => intro h; cases a with
        | v d => obtain ⟨k, hk⟩ := ih h; exact ⟨k + 1, by simpa using hk⟩
        | r d => obtain ⟨k, hk⟩ := ih h; exact ⟨k + 1, by simpa using hk⟩
        | b i =>
          rcases List.mem_cons.mp (show j ∈ i :: PW.lentB as from h) with e | h
          · subst e; exact ⟨0, rfl⟩
          · obtain ⟨k, hk⟩ := ih h; exact ⟨k + 1, by simpa using hk⟩
    exact hj (this hm)
theorem EnvOk.leave (E : EnvOk S z G ρ σ H) (A : ArsOk S G σ vs as) (ok : PW.lentOk as = true) (hl : PW.lent ρ as = some ss) (F : After S G H vs ss G' H' os) : EnvOk S z G' (PW.back as os ρ) σ H' := by
  have g1 := (back_get (ρ0 := ρ) (as := as) (os := os) (ρ := ρ) (lentOk_nd ok)).1
  have bk := fun j => back_at A E ok hl F j
  have oB : ∀ {a}, (zc S G H vs ss).B a → ∃ i, owned ρ i ∧ σ[i]? = some (some (.ref a)) ∧ (∃ k : Nat, as[k]? = some (.b i)) := fun {a} h => by
    obtain ⟨k, i, d, h1, h2, h3, h4, h5⟩ := zcB E A hl h
    exact ⟨i, owned_of h5, h4, k, h1⟩
  have own_of : ∀ {j}, owned (PW.back as os ρ) j → owned ρ j := fun {j} o => by
    rcases bk j with ⟨e, _⟩ | ⟨k, d, d', a, u, h1, h2, h3, h4, ⟨h5, _⟩ | ⟨h5, _⟩⟩
    · unfold owned at o ⊢; rw [e] at o; exact o
    · exact .inl ⟨d, h5⟩
    · exact .inr ⟨d, h5⟩
  have apB : ∀ {j a}, owned ρ j → (∀ k : Nat, as[k]? ≠ some (.b j)) → σ[j]? = some (some (.ref a)) → ¬ (zc S G H vs ss).B a := fun {j a} o nk e hb => by
    obtain ⟨i, oi, ei, k, hk⟩ := oB hb
    exact E.apart j i a (fun h => nk k (h ▸ hk)) o oi e ei
  refine ⟨F.same, E.grow.trans F.grow, fun a o h0 g0 l0 => ?_, fun a o h0 nb l0 => ?_, g1.trans E.len, fun j sl e => ?_, fun j k a ne oj ok' => E.apart j k a ne (own_of oj) (own_of ok'), fun j a q => ?_, fun j d e => ?_, fun a q => ?_⟩
  · have hh : ∃ u, H a = some u := by
      by_cases hb : z.B a
      · obtain ⟨i, hi⟩ := hb
        obtain ⟨x1, d, x2⟩ := E.held i a hi
        exact E.there (.inr ⟨d, x2⟩) x1
      · exact ⟨o, E.keep a o h0 hb l0⟩
    obtain ⟨u, hu⟩ := hh
    exact F.old a u hu (E.old a o h0 g0 l0)
  · have hh := E.keep a o h0 nb l0
    refine F.keep a o hh fun hb => ?_
    obtain ⟨k, i, d, h1, h2, h3, h4, h5⟩ := zcB E A hl hb
    rcases h5 with w | w
    · obtain ⟨b, u, x1, _, _, _, _, x6⟩ := E.slot i _ w
      rw [h4] at x1; cases x1
      rcases x6 with x6 | x6
      · exact l0 x6
      · rw [x6] at h0; cases h0
    · obtain ⟨b, u, x1, _, _, _, x5⟩ := E.slot i _ w
      rw [h4] at x1; cases x1
      exact nb ⟨i, x5⟩
  · rcases bk j with ⟨e', nk⟩ | ⟨k, d, d', a, u, h1, h2, h3, h4, ⟨h5, h6⟩ | ⟨h5, h6⟩⟩
    · rw [e'] at e
      have q := E.slot j sl e
      cases sl with
      | un => trivial
      | rd d => trivial
      | sh d => obtain ⟨v, x1, x2⟩ := q; exact ⟨v, x1, x2.mono F.grow⟩
      | ow d =>
        obtain ⟨a, o, x1, x2, x3, x4, x5, x6⟩ := q
        exact ⟨a, o, x1, F.keep a o x2 (apB (.inl ⟨d, e⟩) nk x1), x3.mono F.grow, F.old a o x2 x4, x5, x6⟩
      | bo d =>
        obtain ⟨a, o, x1, x2, x3, x4, x5⟩ := q
        exact ⟨a, o, x1, F.keep a o x2 (apB (.inr ⟨d, e⟩) nk x1), x3.mono F.grow, F.old a o x2 x4, x5⟩
    · rw [h6] at e; cases e
      obtain ⟨b, o, x1, x2, x3, x4, x5, x6⟩ := E.slot j _ h5
      rw [h2] at x1; cases x1
      exact ⟨a, u, h2, h3, h4, F.old a o x2 x4, x5, x6⟩
    · rw [h6] at e; cases e
      obtain ⟨b, o, x1, x2, x3, x4, x5⟩ := E.slot j _ h5
      rw [h2] at x1; cases x1
      exact ⟨a, u, h2, h3, h4, F.old a o x2 x4, x5⟩
  · obtain ⟨x1, d, x2⟩ := E.held j a q
    refine ⟨x1, ?_⟩
    rcases bk j with ⟨e', nk⟩ | ⟨k, d1, d', b, u, h1, h2, h3, h4, ⟨h5, h6⟩ | ⟨h5, h6⟩⟩
    · exact ⟨d, e'.trans x2⟩
    · rw [x2] at h5; cases h5
    · exact ⟨d', h6⟩
  · rcases bk j with ⟨e', nk⟩ | ⟨k, d1, d', b, u, h1, h2, h3, h4, ⟨h5, h6⟩ | ⟨h5, h6⟩⟩
    · rw [e'] at e
      obtain ⟨v, x1, x2 | ⟨a, o, x2, x3, x4, x5⟩⟩ := E.rds j d e
      · exact ⟨v, x1, .inl (x2.mono F.grow)⟩
      · refine ⟨v, x1, .inr ⟨a, o, x2, F.keep a o x3 fun hb => ?_, x4.mono F.grow, x5⟩⟩
        obtain ⟨i, oi, ei, _⟩ := oB hb
        exact (E.rdo a x5).2 i oi ei
    · rw [h6] at e; cases e
    · rw [h6] at e; cases e
  · obtain ⟨⟨o, x1⟩, x2⟩ := E.rdo a q
    refine ⟨⟨o, F.keep a o x1 fun hb => ?_⟩, fun j oj => x2 j (own_of oj)⟩
    obtain ⟨i, oi, ei, _⟩ := oB hb
    exact x2 i oi ei
/-- what comes back new is new here -/
theorem EnvOk.fresh (E : EnvOk S z G ρ σ H) (A : ArsOk S G σ vs as) (ok : PW.lentOk as = true) (hl : PW.lent ρ as = some ss) (F : After S G H vs ss G' H' os) {a : Addr} {o : HO} {d : PW.D} (g : G' a = none) (h0 : H a = none) (h1 : H' a = some o) (r : Own S G' a o d) : New S z G' (PW.back as os ρ) σ H' a d := by
  obtain ⟨nb, ol⟩ := E.new0 h0
  refine ⟨⟨o, h1, r⟩, g, nb, ol, fun i oi ei => ?_, fun q => ?_⟩
  · have oi' : owned ρ i := by
      rcases back_at A E ok hl F i with ⟨e, _⟩ | ⟨k, d, d', a, u, h1, h2, h3, h4, ⟨h5, _⟩ | ⟨h5, _⟩⟩
      · unfold owned at oi ⊢; rw [e] at oi; exact oi
      · exact .inl ⟨d, h5⟩
      · exact .inr ⟨d, h5⟩
    obtain ⟨u, hu⟩ := E.there oi' ei
    rw [h0] at hu; cases hu
  · obtain ⟨⟨u, hu⟩, _⟩ := E.rdo a q
    rw [h0] at hu; cases hu
/-- THE CALL: from the caller's slots to the promise -/
theorem call_core {φ : PW.FSpec} {ex : PW.XC} {q : PW.Ret → PW.Env → Prop} {Q : VK} (E : EnvOk S z G ρ σ H) (A : ArsOk S G σ vs as) (h : PW.call φ as ex ρ q)
    (k : ∀ v H' G' ρ' r, EnvOk S z G' ρ' σ H' → Same G G' → (match r with
      | .sh d => Rep S G' v d
      | .fr d => ∃ a, v = .ref a ∧ New S z G' ρ' σ H' a d
      | .arg i => vs[i]? = some v) → q r ρ' → Q v H') : spOf S φ vs H Q (L2.WE (WOf S z ex) σ) := by
  obtain ⟨ok, h⟩ := h
  cases hl : PW.lent ρ as with
  | none => rw [hl] at h; exact h.elim
  | some ss =>
    rw [hl] at h
    refine ⟨G, ss, _, _, E.enter A ok hl, h, fun v H' G' os r F ro hq => ?_, fun cls d H' G' os en F xo hq => ?_⟩
    · refine k v H' G' _ r (E.leave A ok hl F) F.grow ?_ hq
      cases r with
      | sh d => exact ro
      | fr d => obtain ⟨a, o, e1, e2, e3, e4, e5⟩ := ro; exact ⟨a, e1, E.fresh A ok hl F e2 e3 e4 e5⟩
      | arg i => exact ro
    · exact ⟨G', _, en, E.leave A ok hl F, xo, hq⟩
end
end PS
end

section
set_option Elab.async false
set_option linter.all false
set_option maxRecDepth 100000
set_option maxHeartbeats 4000000
/-! PS12: the calls' rules; a def keeps its promise. -/
namespace PS
open PySem PySem.Spec L2
open PyProof.Rows hiding St
def TBOf (S : Stat) (z : Z) (ex : PW.XC) (w : PW.WB) : TA := fun σ H Q => ∃ G ρ q, EnvOk S z G ρ σ H ∧ w ex ρ q ∧
  ∀ vs H' G' ρ' as, EnvOk S z G' ρ' σ H' → Same G G' → ArsOk S G' σ vs as → q as ρ' → Q vs H'
abbrev SL (S : Stat) (z : Z) (ex : PW.XC) (X : Cx) (es : List Expr) (w : PW.WB) : Prop := PA X es (TBOf S z ex w)
def KOf (S : Stat) (z : Z) (ex : PW.XC) (w : PW.WK) : TE := fun σ H Q => ∃ G ρ q, EnvOk S z G ρ σ H ∧ w ex ρ q ∧
  ∀ v H' G' ρ' r, EnvOk S z G' ρ' σ H' → Same G G' → (match r with
    | .sh d => Rep S G' v d
    | .fr d => ∃ a, v = .ref a ∧ New S z G' ρ' σ H' a d
    | .arg i => True) → q r ρ' → Q v H'
abbrev KE (S : Stat) (z : Z) (ex : PW.XC) (X : Cx) (e : Expr) (w : PW.WK) : Prop := PE X e (KOf S z ex w)
section
variable {S : Stat} {X : Cx} {z : Z} {ex : PW.XC} {a e o : Expr} {es : List Expr} {wa : PW.WE} {wb : PW.WB} {pos p apos : Pos} {wk : PW.WK}
theorem se_sh (h : KE S z ex X a wk) : SE S z ex X a (PW.wSh wk) := pe_imp h fun σ H Q ⟨G, ρ, q, E, w, k⟩ => ⟨G, ρ, _, E, w, fun v H' G' ρ' r E' sg ro hq => by
  cases r with
  | sh d => exact k v H' G' ρ' d E' sg ro hq
  | _ => exact hq.elim⟩
theorem ne_fr (h : KE S z ex X a wk) : NE S z ex X a (PW.nFr wk) := pe_imp h fun σ H Q ⟨G, ρ, q, E, w, k⟩ => ⟨G, ρ, _, E, w, fun v H' G' ρ' r E' sg ro hq => by
  cases r with
  | fr d => obtain ⟨a, rfl, N⟩ := ro; exact k a H' G' ρ' d E' sg N hq
  | _ => exact hq.elim⟩
theorem sl_nil : SL S z ex X [] PW.bNil := pa_imp pa_nil fun σ H Q ⟨G, ρ, q, E, w, k⟩ => k [] H G ρ [] E (Same.refl G) .nil w
theorem sl_v (h : SE S z ex X a wa) (h2 : SL S z ex X es wb) (hs : starEach (a :: es) X.env = (false, eval a X.env) :: starEach es X.env := by rfl) : SL S z ex X (a :: es) (PW.bV wa wb) := pa_imp (pa_cons h h2 hs) fun σ H Q ⟨G, ρ, q, E, w, k⟩ =>
  ⟨G, ρ, _, E, w, fun x H1 G1 ρ1 d E1 sg1 r1 w1 => ⟨G1, ρ1, _, E1, w1, fun xs H2 G2 ρ2 ds E2 sg2 r2 q2 => k _ H2 G2 ρ2 _ E2 (sg1.trans sg2) (.v (r1.mono sg2) r2) q2⟩⟩
theorem sl_b (i : Nat) {x : Str} {px : Pos} (h2 : SL S z ex X es wb) (hN : X.N[i]? = some x := by rfl) (hv : Vis X.env.scope x := by first | exact Or.inl rfl | exact Or.inr (Or.inl rfl) | exact Or.inr (Or.inr rfl)) (hd : (x == ("__debug__" : Str)) = false := by decide)
    (hcd : (x == ("__classdict__" : Str)) = false := by decide) (hs : starEach (.Name x px :: es) X.env = (false, eval (.Name x px) X.env) :: starEach es X.env := by rfl) : SL S z ex X (.Name x px :: es) (PW.bB i wb) := pa_imp (pa_cons (pv i hN hv hd hcd) h2 hs) fun σ H Q ⟨G, ρ, q, E, ⟨w1, w⟩, k⟩ => by
  obtain ⟨v, d, e1, _, _⟩ := E.look w1
  exact ⟨v, e1, G, ρ, _, E, w, fun xs H2 G2 ρ2 ds E2 sg2 r2 q2 => k _ H2 G2 ρ2 _ E2 sg2 (.b e1 r2) q2⟩
theorem sl_r (i : Nat) {x : Str} {px : Pos} (h2 : SL S z ex X es wb) (hN : X.N[i]? = some x := by rfl) (hv : Vis X.env.scope x := by first | exact Or.inl rfl | exact Or.inr (Or.inl rfl) | exact Or.inr (Or.inr rfl)) (hd : (x == ("__debug__" : Str)) = false := by decide)
    (hcd : (x == ("__classdict__" : Str)) = false := by decide) (hs : starEach (.Name x px :: es) X.env = (false, eval (.Name x px) X.env) :: starEach es X.env := by rfl) : SL S z ex X (.Name x px :: es) (PW.bR i wb) := pa_imp (pa_cons (pv i hN hv hd hcd) h2 hs) fun σ H Q ⟨G, ρ, q, E, ⟨w1, w⟩, k⟩ => by
  obtain ⟨v, d, e1, _, _⟩ := E.look w1
  exact ⟨v, e1, G, ρ, _, E, w, fun xs H2 G2 ρ2 ds E2 sg2 r2 q2 => k _ H2 G2 ρ2 _ E2 sg2 (.r e1 r2) q2⟩
/-! ### functions -/
variable {j : Nat} {f C : Addr} {fd : FuncData} {ps : List Str} {φ : PW.FSpec} {dvs : List V} {dds : List PW.D} {ds : List Value} {x m : Str} {CX : CXT}
theorem call_args {σ : St} {H : Hp} {Q : VK} (hd : ∀ G, RepL S G dvs dds) (h : KOf S z ex (PW.kCall φ dds wb) σ H Q) : tCallSD (spOf S φ) dvs (L2.WE (WOf S z ex)) (TBOf S z ex wb) σ H Q := by
  obtain ⟨G, ρ, q, E, w, k⟩ := h
  exact ⟨G, ρ, _, E, w, fun vs H1 G1 ρ1 as E1 sg1 A1 h1 => call_core E1 (A1.app (.ofL (hd G1))) h1 fun v H2 G2 ρ2 r E2 sg2 ro hq => k v H2 G2 ρ2 r E2 (sg1.trans sg2) (by
    cases r with
    | sh d => exact ro
    | fr d => exact ro
    | arg i => trivial) hq⟩
theorem k_call (F : FnOk X.prog X.w X.K X.mg X.base (L2.CX X.prog X.w) j f fd ps (spOf S φ)) (hr : Room j X.A) (hm : X.mg x = some (.ref f)) (hk : PySem.W.keepIn X.K (.ref f) = true) (hb : Binds X.K fd ps ds) (hv : Vals dvs ds) (hd : ∀ G, RepL S G dvs dds) (tk : Takes X (WOf S z ex))
    (ha : SL S z ex X (e :: es) wb) (hg : Gl X x := by rfl) (hdb : (x == ("__debug__" : Str)) = false := by decide) (he : starEach (e :: es) X.env = (false, eval e X.env) :: starEach es X.env := by rfl) (hpl : (backTo pos (starEach es X.env)).any (·.1) = false := by rfl) :
    KE S z ex X (.Call (.Name x p) (e :: es) [] pos) (PW.kCall φ dds wb) := pe_imp (pe_callSD F hr hg hm hk hb hv (fun σ => passAt tk σ) ha hdb he hpl) fun _ _ _ h => call_args hd h
theorem k_call0 (F : FnOk X.prog X.w X.K X.mg X.base (L2.CX X.prog X.w) j f fd ps (spOf S φ)) (hr : Room j X.A) (hm : X.mg x = some (.ref f)) (hk : PySem.W.keepIn X.K (.ref f) = true) (hb : Binds X.K fd ps ds) (hv : Vals dvs ds) (hd : ∀ G, RepL S G dvs dds) (tk : Takes X (WOf S z ex))
    (hg : Gl X x := by rfl) (hdb : (x == ("__debug__" : Str)) = false := by decide) :
    KE S z ex X (.Call (.Name x p) [] [] pos) (PW.kCall φ dds PW.bNil) := pe_imp (pe_call0SD F hr hg hm hk hb hv (fun σ => passAt tk σ) hdb) fun σ H Q h => by
  obtain ⟨G, ρ, q, E, w, k⟩ := call_args (wb := PW.bNil) hd h
  exact k [] H G ρ [] E (Same.refl G) .nil w
/-! ### methods -/
/-- what a method is called of: the value, as it is lent -/
def TOO (S : Stat) (z : Z) (ex : PW.XC) (w : PW.WO) : TE := fun σ H Q => ∃ G ρ q, EnvOk S z G ρ σ H ∧ w ex ρ q ∧
  ∀ v H' G' ρ' ar d, EnvOk S z G' ρ' σ H' → Same G G' → ArsOk S G' σ [v] [ar] → Look S G' H' v d → q ar d ρ' → Q v H'
abbrev SO (S : Stat) (z : Z) (ex : PW.XC) (X : Cx) (e : Expr) (w : PW.WO) : Prop := PE X e (TOO S z ex w)
theorem so_v (h : SE S z ex X a wa) : SO S z ex X a (PW.oV wa) := pe_imp h fun σ H Q ⟨G, ρ, q, E, w, k⟩ => ⟨G, ρ, _, E, w, fun v H' G' ρ' d E' sg r hq => k v H' G' ρ' _ d E' sg (.v r .nil) (.inl r) hq⟩
theorem so_b (i : Nat) {x : Str} {px : Pos} (hN : X.N[i]? = some x := by rfl) (hv : Vis X.env.scope x := by first | exact Or.inl rfl | exact Or.inr (Or.inl rfl) | exact Or.inr (Or.inr rfl)) (hd : (x == ("__debug__" : Str)) = false := by decide)
    (hcd : (x == ("__classdict__" : Str)) = false := by decide) : SO S z ex X (.Name x px) (PW.oB i) := pe_imp (pv i hN hv hd hcd) fun σ H Q ⟨G, ρ, q, E, w, k⟩ => by
  obtain ⟨v, d, e1, l, hq⟩ := E.look w
  exact ⟨v, e1, k v H G ρ _ d E (Same.refl G) (.b e1 .nil) l hq⟩
theorem so_r (i : Nat) {x : Str} {px : Pos} (hN : X.N[i]? = some x := by rfl) (hv : Vis X.env.scope x := by first | exact Or.inl rfl | exact Or.inr (Or.inl rfl) | exact Or.inr (Or.inr rfl)) (hd : (x == ("__debug__" : Str)) = false := by decide)
    (hcd : (x == ("__classdict__" : Str)) = false := by decide) : SO S z ex X (.Name x px) (PW.oR i) := pe_imp (pv i hN hv hd hcd) fun σ H Q ⟨G, ρ, q, E, w, k⟩ => by
  obtain ⟨v, d, e1, l, hq⟩ := E.look w
  exact ⟨v, e1, k v H G ρ _ d E (Same.refl G) (.r e1 .nil) l hq⟩
theorem k_meth {c ms : String} {wo : PW.WO} {pl : Sem Bool} (hS : S.cls c = some C) (hc : Cls X.K C) (hM : Meth X.K C (Str.ofString ms) f) (F : FnOk X.prog X.w X.K X.mg X.base (L2.CX X.prog X.w) j f fd ps (spOf S φ)) (hr : Room j X.A) (hb : Binds X.K fd ps ds) (hv : Vals dvs ds) (hd : ∀ G, RepL S G dvs dds) (tk : Takes X (WOf S z ex))
    (ho : SO S z ex X o wo) (ha : SL S z ex X (e :: es) wb) (hst : starEach (e :: es) X.env = (false, eval e X.env) :: starEach es X.env := by rfl) (hpl : (backTo pos (starEach es X.env)).any (·.1) = false := by rfl)
    (ht : eval (.Call (.Attribute o (Str.ofString ms) apos) (e :: es) [] pos) X.env = (do
      let ov ← eval o X.env
      standAt apos.atName
      let (f, first) ← holding [ov] (getMethod ov (Str.ofString ms) pl)
      callWith pos f first (backTo pos (starEach (e :: es) X.env)) (backToKw pos (keywordEach [] X.env))) := by rfl) :
    KE S z ex X (.Call (.Attribute o (Str.ofString ms) apos) (e :: es) [] pos) (PW.kMeth c ms wo φ dds wb) := pe_imp (pe_methSD ho hc hM F hr hb hv (fun σ => passAt tk σ) ha hst hpl ht) fun σ H Q ⟨G, ρ, q, E, w, k⟩ =>
  ⟨G, ρ, _, E, w, fun x H1 G1 ρ1 ar d E1 sg1 A1 lk ⟨h1, h2⟩ => by
    cases d <;> first | exact h1.elim | skip
    obtain ⟨rfl, h1⟩ := h1
    obtain ⟨a, C', dx, fs, rfl, ha, hc', r⟩ := lk.obj_of E1.same
    rw [hS] at hc'
    cases hc'
    exact ⟨a, dx, fs, rfl, ha, (repF_look r).2 h1, G1, ρ1, _, E1, h2, fun vs H2 G2 ρ2 as E2 sg2 A2 h3 => call_core (vs := .ref a :: (vs ++ dvs)) E2 (ArsOk.app (A1.mono sg2) (A2.app (.ofL (hd G2)))) h3 fun v H3 G3 ρ3 r E3 sg3 ro hq => k v H3 G3 ρ3 r E3 (sg1.trans (sg2.trans sg3)) (by
      cases r with
      | sh d => exact ro
      | fr d => exact ro
      | arg i => trivial) hq⟩⟩
theorem k_meth0 {c ms : String} {wo : PW.WO} {pl : Sem Bool} (hS : S.cls c = some C) (hc : Cls X.K C) (hM : Meth X.K C (Str.ofString ms) f) (F : FnOk X.prog X.w X.K X.mg X.base (L2.CX X.prog X.w) j f fd ps (spOf S φ)) (hr : Room j X.A) (hb : Binds X.K fd ps ds) (hv : Vals dvs ds) (hd : ∀ G, RepL S G dvs dds) (tk : Takes X (WOf S z ex))
    (ho : SO S z ex X o wo)
    (ht : eval (.Call (.Attribute o (Str.ofString ms) apos) [] [] pos) X.env = (do
      let ov ← eval o X.env
      standAt apos.atName
      let (f, first) ← holding [ov] (getMethod ov (Str.ofString ms) pl)
      callWith pos f first (backTo pos (starEach [] X.env)) (backToKw pos (keywordEach [] X.env))) := by rfl) :
    KE S z ex X (.Call (.Attribute o (Str.ofString ms) apos) [] [] pos) (PW.kMeth c ms wo φ dds PW.bNil) := pe_imp (pe_meth0SD ho hc hM F hr hb hv (fun σ => passAt tk σ) ht) fun σ H Q ⟨G, ρ, q, E, w, k⟩ =>
  ⟨G, ρ, _, E, w, fun x H1 G1 ρ1 ar d E1 sg1 A1 lk ⟨h1, h2⟩ => by
    cases d <;> first | exact h1.elim | skip
    obtain ⟨rfl, h1⟩ := h1
    obtain ⟨a, C', dx, fs, rfl, ha, hc', r⟩ := lk.obj_of E1.same
    rw [hS] at hc'
    cases hc'
    exact ⟨a, dx, fs, rfl, ha, (repF_look r).2 h1, call_core (vs := .ref a :: ([] ++ dvs)) E1 (ArsOk.app A1 (.ofL (hd G1))) h2 fun v H3 G3 ρ3 r E3 sg3 ro hq => k v H3 G3 ρ3 r E3 (sg1.trans sg3) (by
      cases r with
      | sh d => exact ro
      | fr d => exact ro
      | arg i => trivial) hq⟩⟩
/-! ### constructors -/
theorem snoc_get {α : Type} {l : List α} {x y : α} {i : Nat} (h : (l ++ [x])[i]? = some y) : (l[i]? = some y ∧ i < l.length) ∨ (i = l.length ∧ y = x) := by
  by_cases hi : i < l.length
  · rw [List.getElem?_append_left hi] at h; exact .inl ⟨h, hi⟩
  · rw [List.getElem?_append_right (by omega)] at h
    have hl := (List.getElem?_eq_some_iff.mp h).1
    simp at hl
    have e : i = l.length := by omega
    subst e
    simp at h
    exact .inr ⟨rfl, h.symm⟩
theorem snoc_lt {α : Type} {l : List α} {x : α} {i : Nat} (h : i < l.length) : (l ++ [x])[i]? = l[i]? := List.getElem?_append_left h
theorem snoc_eq {α : Type} {l : List α} {x : α} : (l ++ [x])[l.length]? = some x := by simp
theorem EnvOk.snoc {G H : Hp} {ρ : PW.Env} {σ : St} {a : Addr} {d : PW.D} (E : EnvOk S z G ρ σ H) (N : New S z G ρ σ H a d) : EnvOk S z G (ρ ++ [.ow d]) (σ ++ [some (.ref a)]) H := by
  have own : ∀ {j}, owned (ρ ++ [.ow d]) j → (owned ρ j ∧ j < ρ.length) ∨ j = ρ.length := fun {j} o => by
    rcases o with ⟨d', q⟩ | ⟨d', q⟩ <;> rcases snoc_get q with ⟨q, hj⟩ | ⟨hj, _⟩
    · exact .inl ⟨.inl ⟨d', q⟩, hj⟩
    · exact .inr hj
    · exact .inl ⟨.inr ⟨d', q⟩, hj⟩
    · exact .inr hj
  have lt : ∀ {j}, j < ρ.length → (σ ++ [some (V.ref a)])[j]? = σ[j]? := fun hj => snoc_lt (by rw [← E.len]; exact hj)
  have eq : (σ ++ [some (V.ref a)])[ρ.length]? = some (some (V.ref a)) := by rw [E.len]; exact snoc_eq
  refine ⟨E.same, E.grow, E.old, E.keep, by simp [E.len], fun i sl e => ?_, fun i j b ne oi oj ei ej => ?_, fun i b q => ?_, fun i d' e => ?_, fun b q => ⟨(E.rdo b q).1, fun j oj ej => ?_⟩⟩
  · rcases snoc_get e with ⟨e, hi⟩ | ⟨rfl, rfl⟩
    · rw [lt hi]; exact E.slot i sl e
    · obtain ⟨o, h1, h2⟩ := N.at_
      exact ⟨a, o, eq, h1, h2, N.off, N.nb, N.old⟩
  · rcases own oi with ⟨oi, hi⟩ | rfl
    · rw [lt hi] at ei
      rcases own oj with ⟨oj, hj⟩ | rfl
      · rw [lt hj] at ej; exact E.apart i j b ne oi oj ei ej
      · rw [eq] at ej; cases ej; exact N.free i oi ei
    · rw [eq] at ei; cases ei
      rcases own oj with ⟨oj, hj⟩ | rfl
      · rw [lt hj] at ej; exact N.free j oj ej
      · exact ne rfl
  · obtain ⟨h1, d', h2⟩ := E.held i b q
    have hi := (List.getElem?_eq_some_iff.mp h2).1
    exact ⟨by rw [lt hi]; exact h1, d', by rw [snoc_lt hi]; exact h2⟩
  · rcases snoc_get e with ⟨e, hi⟩ | ⟨_, h⟩
    · rw [lt hi]; exact E.rds i d' e
    · cases h
  · rcases own oj with ⟨oj, hj⟩ | rfl
    · rw [lt hj] at ej; exact (E.rdo b q).2 j oj ej
    · rw [eq] at ej; cases ej; exact N.rdf q
theorem take_get {α : Type} {l : List α} {n i : Nat} {y : α} (h : (l.take n)[i]? = some y) : l[i]? = some y ∧ i < n := by
  rw [List.getElem?_take] at h
  by_cases hi : i < n
  · rw [if_pos hi] at h; exact ⟨h, hi⟩
  · rw [if_neg hi] at h; cases h
theorem EnvOk.unsnoc {G H : Hp} {ρ2 : PW.Env} {σ : St} {s : Option V} (E : EnvOk S z G ρ2 (σ ++ [s]) H) (hb : ∀ i a, z.bo i a → i < σ.length) : EnvOk S z G (ρ2.take σ.length) σ H := by
  have own : ∀ {j}, owned (ρ2.take σ.length) j → owned ρ2 j ∧ j < σ.length := fun {j} o => by
    rcases o with ⟨d', q⟩ | ⟨d', q⟩ <;> obtain ⟨q, hj⟩ := take_get q
    · exact ⟨.inl ⟨d', q⟩, hj⟩
    · exact ⟨.inr ⟨d', q⟩, hj⟩
  refine ⟨E.same, E.grow, E.old, E.keep, ?_, fun i sl e => ?_, fun i j b ne oi oj ei ej => ?_, fun i b q => ?_, fun i d' e => ?_, fun b q => ⟨(E.rdo b q).1, fun j oj ej => ?_⟩⟩
  · have := E.len
    simp at this
    simp [this]
  · obtain ⟨e, hi⟩ := take_get e
    have := E.slot i sl e
    rw [snoc_lt hi] at this; exact this
  · obtain ⟨oi, hi⟩ := own oi
    obtain ⟨oj, hj⟩ := own oj
    exact E.apart i j b ne oi oj (by rw [snoc_lt hi]; exact ei) (by rw [snoc_lt hj]; exact ej)
  · obtain ⟨h1, d', h2⟩ := E.held i b q
    have hi := hb i b q
    rw [snoc_lt hi] at h1
    exact ⟨h1, d', by rw [List.getElem?_take, if_pos hi]; exact h2⟩
  · obtain ⟨e, hi⟩ := take_get e
    have := E.rds i d' e
    rw [snoc_lt hi] at this; exact this
  · obtain ⟨oj, hj⟩ := own oj
    exact (E.rdo b q).2 j oj (by rw [snoc_lt hj]; exact ej)
theorem EnvOk.unsnocN {G H : Hp} {ρ2 : PW.Env} {σ : St} {a : Addr} {d : PW.D} (E : EnvOk S z G ρ2 (σ ++ [some (.ref a)]) H) (h : ρ2[σ.length]? = some (.ow d)) : New S z G (ρ2.take σ.length) σ H a d := by
  obtain ⟨b, o, x1, x2, x3, x4, x5, x6⟩ := E.slot _ _ h
  rw [snoc_eq] at x1
  cases x1
  refine ⟨⟨o, x2, x3⟩, x4, x5, x6, fun i oi ei => ?_, fun q => (E.rdo a q).2 σ.length (.inl ⟨d, h⟩) snoc_eq⟩
  have hi : owned ρ2 i ∧ i < σ.length := by
    rcases oi with ⟨d', q⟩ | ⟨d', q⟩ <;> obtain ⟨q, hj⟩ := take_get q
    · exact ⟨.inl ⟨d', q⟩, hj⟩
    · exact ⟨.inr ⟨d', q⟩, hj⟩
  exact E.apart i σ.length a (by omega) hi.1 (.inl ⟨d, h⟩) (by rw [snoc_lt hi.2]; exact ei) snoc_eq
theorem ArsOk.snoc {G : Hp} {σ : St} {s : Option V} {vs : List V} {as : List PW.Ar} (h : ArsOk S G σ vs as) : ArsOk S G (σ ++ [s]) vs as := by
  have lt : ∀ {i : Nat} {v : V}, σ[i]? = some (some v) → (σ ++ [s])[i]? = some (some v) := fun {i v} e => by
    rw [snoc_lt (List.getElem?_eq_some_iff.mp e).1]; exact e
  induction h with
  | nil => exact .nil
  | v r _ ih => exact .v r ih
  | b r _ ih => exact .b (lt r) ih
  | r r _ ih => exact .r (lt r) ih
theorem make_args {c : String} {σ : St} {H : Hp} {Q : VK} (hS : S.cls c = some C) (hd : ∀ G, RepL S G dvs dds) (h : KOf S z ex (PW.kMake c φ dds wb) σ H Q) : tMakeSD C (spOf S φ) dvs (L2.WE (WOf S z ex)) (TBOf S z ex wb) σ H Q := by
  obtain ⟨G, ρ, q, E, w, k⟩ := h
  refine ⟨G, ρ, _, E, w, fun vs H1 G1 ρ1 as E1 sg1 A1 h1 x dx n1 n2 ne => ?_⟩
  have E2 := E1.laidH n2 (.own x)
  have n1' : upd H1 dx (.own x) x = none := by rw [upd_ne (Ne.symm ne)]; exact n1
  obtain ⟨E3, N3⟩ := E2.newN n1' (o := .ins C dx []) (Own.obj (a := x) hS .nil)
  have hbo : ∀ i a, z.bo i a → i < σ.length := fun i a q => by
    have := (E1.held i a q).1
    exact (List.getElem?_eq_some_iff.mp this).1
  have e0 : ρ1.length = σ.length := E1.len
  have A3 : ArsOk S G1 (σ ++ [some (V.ref x)]) (.ref x :: (vs ++ dvs)) (.b ρ1.length :: (as ++ dds.map PW.Ar.v)) := .b (by rw [e0]; exact snoc_eq) (ArsOk.snoc (A1.app (.ofL (hd G1))))
  have main : spOf S φ (.ref x :: (vs ++ dvs)) (upd (upd H1 dx (.own x)) x (.ins C dx [])) (fun v H2 => v = .non ∧ Q (.ref x) H2) (L2.WE (WOf S z fun e ρ2 => ex e (ρ2.take ρ1.length)) (σ ++ [some (V.ref x)])) :=
    call_core (E3.snoc N3) A3 h1 fun v H3 G3 ρ3 r E4 sg3 ro hq => by
      cases r with
      | sh d =>
        cases d with
        | non =>
          obtain rfl := Rep.non_of ro
          cases e5 : ρ3[ρ1.length]? with
          | none => rw [e5] at hq; exact hq.elim
          | some sl =>
            rw [e5] at hq
            cases sl with
            | ow d =>
              rw [e0] at e5 hq
              exact ⟨rfl, k (.ref x) H3 G3 _ (.fr d) (E4.unsnoc hbo) (sg1.trans sg3) ⟨x, rfl, E4.unsnocN e5⟩ hq⟩
            | _ => exact hq.elim
        | _ => exact hq.elim
      | _ => exact hq.elim
  obtain ⟨G5, ss, q5, e5, E5, h5, hq5, he5⟩ := main
  refine ⟨G5, ss, q5, e5, E5, h5, hq5, fun cls d H' G' os en F xo hx => ?_⟩
  obtain ⟨G6, ρ6, e6, E6, x6, h6⟩ := he5 cls d H' G' os en F xo hx
  rw [e0] at h6
  exact ⟨G6, _, e6, E6.unsnoc hbo, x6, h6⟩
theorem k_make {c : String} (hS : S.cls c = some C) (M : Mk X.K C f) (F : FnOk X.prog X.w X.K X.mg X.base (L2.CX X.prog X.w) j f fd ps (spOf S φ)) (hr : Room (j + 1) X.A) (hm : X.mg x = some (.ref C)) (hb : Binds X.K fd ps ds) (hv : Vals dvs ds) (hd : ∀ G, RepL S G dvs dds) (tk : Takes X (WOf S z ex))
    (ha : SL S z ex X (e :: es) wb) (hg : Gl X x := by rfl) (hdb : (x == ("__debug__" : Str)) = false := by decide) (he : starEach (e :: es) X.env = (false, eval e X.env) :: starEach es X.env := by rfl) (hpl : (backTo pos (starEach es X.env)).any (·.1) = false := by rfl) :
    KE S z ex X (.Call (.Name x p) (e :: es) [] pos) (PW.kMake c φ dds wb) := pe_imp (pe_makeSD M F hr hg hm hb hv (fun σ => passAt tk σ) ha hdb he hpl) fun _ _ _ h => make_args hS hd h
theorem pe_make0SD {sp : Sp} {E : St → XK} (M : Mk X.K C f) (F : FnOk X.prog X.w X.K X.mg X.base CX j f fd ps sp) (hr : Room (j + 1) X.A) (hg : Gl X x) (hm : X.mg x = some (.ref C)) (hb : Binds X.K fd ps ds) (hd : Vals dvs ds) (hx : ∀ σ, PassesAt CX X σ (E σ))
    (hdb : (x == ("__debug__" : Str)) = false := by decide) : PE X (.Call (.Name x p) [] [] pos) (tMakeSD C sp dvs E tNil) := by
  refine ⟨fun pins s σ H Q I h => ?_⟩
  refine wpAny_Call_Name_kw (ld_glob I hg hm ?_ hdb)
  exact PySem.W.callWith_K0 I.kIn M.kp (run_makeSD (us := []) M F hr hb hd (hx σ) I .nil h)
theorem k_make0 {c : String} (hS : S.cls c = some C) (M : Mk X.K C f) (F : FnOk X.prog X.w X.K X.mg X.base (L2.CX X.prog X.w) j f fd ps (spOf S φ)) (hr : Room (j + 1) X.A) (hm : X.mg x = some (.ref C)) (hb : Binds X.K fd ps ds) (hv : Vals dvs ds) (hd : ∀ G, RepL S G dvs dds) (tk : Takes X (WOf S z ex))
    (hg : Gl X x := by rfl) (hdb : (x == ("__debug__" : Str)) = false := by decide) :
    KE S z ex X (.Call (.Name x p) [] [] pos) (PW.kMake c φ dds PW.bNil) := pe_imp (pe_make0SD M F hr hg hm hb hv (fun σ => passAt tk σ) hdb) fun σ H Q h => by
  obtain ⟨G, ρ, q, E, w, k⟩ := make_args hS (wb := PW.bNil) hd h
  exact k [] H G ρ [] E (Same.refl G) .nil w
end
end PS
end

section
set_option Elab.async false
set_option linter.all false
set_option maxRecDepth 100000
set_option maxHeartbeats 4000000
/-! PS13: a def keeps its promise. -/
namespace PS
open PySem PySem.Spec L2
open PyProof.Rows hiding St
theorem pad_get {α : Type} {l : List α} {x y : α} {n i : Nat} (h : (l ++ List.replicate n x)[i]? = some y) : (l[i]? = some y ∧ i < l.length) ∨ y = x := by
  by_cases hi : i < l.length
  · rw [List.getElem?_append_left hi] at h; exact .inl ⟨h, hi⟩
  · rw [List.getElem?_append_right (by omega), List.getElem?_replicate] at h
    split at h
    · cases h; exact .inr rfl
    · cases h
section
variable {S : Stat} {z : Z} {G G' : Hp} {ρ : PW.Env} {σ : St} {H H' : Hp}
theorem EnvOk.pad (E : EnvOk S z G ρ σ H) (n : Nat) : EnvOk S z G (ρ ++ List.replicate n .un) (σ ++ List.replicate n none) H := by
  have own : ∀ {j}, owned (ρ ++ List.replicate n .un) j → owned ρ j ∧ j < ρ.length := fun {j} o => by
    rcases o with ⟨d', q⟩ | ⟨d', q⟩ <;> rcases pad_get q with ⟨q, hj⟩ | h
    · exact ⟨.inl ⟨d', q⟩, hj⟩
    · cases h
    · exact ⟨.inr ⟨d', q⟩, hj⟩
    · cases h
  have lt : ∀ {j}, j < ρ.length → (σ ++ List.replicate n none)[j]? = σ[j]? := fun hj => List.getElem?_append_left (by rw [← E.len]; exact hj)
  refine ⟨E.same, E.grow, E.old, E.keep, by simp [E.len], fun i sl e => ?_, fun i j b ne oi oj ei ej => ?_, fun i b q => ?_, fun i d' e => ?_, fun b q => ⟨(E.rdo b q).1, fun j oj ej => ?_⟩⟩
  · rcases pad_get e with ⟨e, hi⟩ | rfl
    · rw [lt hi]; exact E.slot i sl e
    · trivial
  · obtain ⟨oi, hi⟩ := own oi
    obtain ⟨oj, hj⟩ := own oj
    rw [lt hi] at ei; rw [lt hj] at ej
    exact E.apart i j b ne oi oj ei ej
  · obtain ⟨h1, d', h2⟩ := E.held i b q
    have hi := (List.getElem?_eq_some_iff.mp h2).1
    exact ⟨by rw [lt hi]; exact h1, d', by rw [List.getElem?_append_left hi]; exact h2⟩
  · rcases pad_get e with ⟨e, hi⟩ | h
    · rw [lt hi]; exact E.rds i d' e
    · cases h
  · obtain ⟨oj, hj⟩ := own oj
    rw [lt hj] at ej; exact (E.rdo b q).2 j oj ej
/-- a def's end, told to its caller -/
theorem EnvOk.after {vs : List V} {ss : List PW.Sl} (E : EnvOk S (zc S G H vs ss) G' ρ σ H') : After S G H vs ss G' H' (ρ.take ss.length) := by
  refine ⟨E.grow, E.same, fun a o h g => E.old a o h g fun h => h, fun a o h nb => E.keep a o h nb fun h => h, fun i a q => ?_⟩
  obtain ⟨h1, d, h2⟩ := E.held i a q
  obtain ⟨b, o, x1, x2, x3, _⟩ := E.slot i _ h2
  rw [h1] at x1; cases x1
  obtain ⟨⟨d0, q1⟩, _⟩ := q
  exact ⟨d, o, by rw [List.getElem?_take, if_pos (List.getElem?_eq_some_iff.mp q1).1]; exact h2, x2, x3⟩
end
theorem fn_ok {S : Stat} {mg : Str → Option Value} {base : Heap} {x qual : Str} {params : Arguments} {body : List Stmt} {scope : Scope} {dvs : List V} {kws : List (Str × V)} {f : Addr} {fd : FuncData} {N ps : List Str} {φ : PW.FSpec} {w : PW.WS} {k : Nat}
    (F : FunD S.K x qual params body scope dvs kws f fd) (SC : FnScope N ps scope) (hlen : ∀ ss q e, φ ss q e → ss.length = ps.length)
    (hs : PW.Does φ N.length w)
    (hb : ∀ (z : Z) (vs : List V) (ex : PW.XC) (cdv : Value) (A : Around) (outer : List Env) (s : Shared) (H : Hp) (E : XK), (∀ a, ¬ z.L a) → N.Nodup → Room k (A.deeper (envOfC qual scope s.heap.objs.size f cdv)) →
      Takes (cxOf (L2.CX S.P S.w) S.P S.w S.K mg base N qual scope f cdv A outer s H E) (WOf S z ex) →
      PassesOwn (model S.P S.w) (cxOf (L2.CX S.P S.w) S.P S.w S.K mg base N qual scope f cdv A outer s H E).A (cxOf (L2.CX S.P S.w) S.P S.w S.K mg base N qual scope f cdv A outer s H E).env (cxOf (L2.CX S.P S.w) S.P S.w S.K mg base N qual scope f cdv A outer s H E).xe →
      SB S z vs ex (cxOf (L2.CX S.P S.w) S.P S.w S.K mg base N qual scope f cdv A outer s H E) body w) :
    FnOk S.P S.w S.K mg base (L2.CX S.P S.w) (k + 1) f fd ps (spOf S φ) := by
  refine F.ok SC (fun vs H Q E ⟨G, ss, q, e, ok, h, _⟩ => ?_) fun cdv A outer s H vs Q E hr h => ?_
  · have := ok.len
    rw [List.length_map] at this
    exact this.symm.trans (hlen _ _ _ h)
  · obtain ⟨G, ss, q, e, ok, h, hq, he⟩ := h
    have hl : ss.length = vs.length := by simpa using ok.len
    refine ⟨TSOf S (zc S G H vs ss) vs (fun en ρ => e en (ρ.take ss.length)) w, hb _ vs _ cdv A outer s H E (fun _ h => h) SC.nd hr ?_ (passes_of rfl), ?_⟩
    · exact (takes_of rfl rfl rfl rfl).imp fun cls d σ' H' ⟨G', ρ', en, ok', xo, h'⟩ => he cls d H' G' _ en ok'.after xo h'
    · refine ⟨G, PW.entry N.length ss, _, ?_, hs ss q e h, ⟨fun G' ρ' σ' H' ok' sg h' => hq .non H' G' _ (.sh .non) ok'.after .non h', fun v G' ρ' σ' H' r ok' sg ro h' => hq v H' G' _ r ok'.after ro h', fun _ _ _ _ _ _ h' => h'.elim, fun _ _ _ _ _ _ h' => h'.elim⟩⟩
      unfold PW.entry L2.start
      rw [hl]
      exact ok.pad _
theorem fn_no {S : Stat} {mg : Str → Option Value} {base : Heap} {f : Addr} {fd : FuncData} {ps : List Str} {φ : PW.FSpec} {k : Nat} (h : ∀ ss q e, ¬ φ ss q e) : FnOk S.P S.w S.K mg base (L2.CX S.P S.w) k f fd ps (spOf S φ) :=
  ⟨fun vs H Q E ⟨_, ss, q, e, _, h', _⟩ => absurd h' (h ss q e), fun A outer s H args us vs Q E _ _ _ _ ⟨_, ss, q, e, _, h', _⟩ => absurd h' (h ss q e)⟩
end PS
end

section
set_option Elab.async false
set_option linter.all false
set_option maxRecDepth 100000
set_option maxHeartbeats 4000000
/-! PS14: enumerate, zip over lists, tuples, texts. -/
namespace PS
open PySem PySem.Spec L2
open PyProof.Rows hiding St
set_option maxHeartbeats 1000000 in
theorem meets_enumerate_newB1 {v : Value} {o : Obj} {H : Heap → Prop} (B : Begins v o H) :
    Meets (Builtin.«enumerate.__new__» ⟨[.type "enumerate", v], []⟩) (fun _ R s => H s.heap ∧
      R (.ok (.ret (.ref (s.heap.push o).objs.size))) { s with heap := (s.heap.push o).push { cls := .type "enumerate", data := .fields #[.none, .bool false, .ref s.heap.objs.size, rawInt 0, .none, .none] } }) :=
  .of_wp fun prog w A R s h => by
    obtain ⟨hp, g, d, tk, os⟩ := s; obtain ⟨h1, h⟩ := h
    have hsub := sub_enumerate
    have q1 : ∀ {A' : Around} {E : Value → Shared → Prop} {Q : Value → Shared → Prop}, Q (.ref hp.objs.size) ⟨hp.push o, g, d, tk, os⟩ → wpAny (model prog w) A' (pyIter v) Q E ⟨hp, g, d, tk, os⟩ :=
      fun q => B.iter prog w _ _ ⟨hp, g, d, tk, os⟩ _ h1 q
    wp_walk using q1
    refine wpAny_stack_any fun st => wpAny_pure ?_
    split
    · rename_i c _ _ _ _ _
      cases (c == Value.type "enumerate")
      · wp_walk using q1
        exact ⟨_, rfl, h⟩
      · wp_walk using q1
        exact ⟨_, rfl, h⟩
    · wp_walk using q1
      exact ⟨_, rfl, h⟩
theorem vals_getU {xs : List V} {us : List Value} (h : Vals xs us) : ∀ {i : Nat} {u : Value}, us[i]? = some u → ∃ x, xs[i]? = some x ∧ RelV x u := by
  induction us generalizing xs with
  | nil => intro i u e; simp at e
  | cons w us ih => cases h with
    | cons a b => intro i u e; cases i with
      | zero => simp at e; subst e; exact ⟨_, rfl, a⟩
      | succ i => simp at e; obtain ⟨x, h1, h2⟩ := ih b e; exact ⟨x, by simpa using h1, h2⟩
theorem enum_begins1 {prog : Program} {w : World} {A : Around} {E : Value → Shared → Prop} {s : Shared} {v : Value} {o : Obj} {H : Heap → Prop} {Q : Value → Shared → Prop} (B : Begins v o H) (h1 : H s.heap)
    (h : ∀ h', IsEnum h' (s.heap.objs.size + 1) s.heap.objs.size 0 .none → h'.get? s.heap.objs.size = some o → h'.objs.size = s.heap.objs.size + 2 →
      (∀ b o, s.heap.get? b = some o → h'.get? b = some o) → Q (.ref (s.heap.objs.size + 1)) { s with heap := h' }) :
    wpAny (model prog w) A (call (.type "enumerate") [v]) Q E s := by
  refine callType_new F.called_enumerate (by decide) (F.typeCall_enumerate_1 _) (F.newCall_enumerate_1 _) (fun obj => F.args_object_init_2 obj _) F.entry_enumerate_new
    (meets_enumerate_newB1 B) ⟨h1, ?_⟩
  have hz : (s.heap.push o).objs.size = s.heap.objs.size + 1 := Heap.size_push ..
  show _ ∧ _
  rw [hz]
  have he : IsEnum ((s.heap.push o).push { cls := .type "enumerate", data := .fields #[.none, .bool false, .ref s.heap.objs.size, rawInt 0, .none, .none] }) (s.heap.objs.size + 1) s.heap.objs.size 0 .none := by
    have := Heap.get?_push_size (s.heap.push o) (o := { cls := .type "enumerate", data := .fields #[.none, .bool false, .ref s.heap.objs.size, rawInt 0, .none, .none] }) rfl
    rw [hz] at this; exact this
  refine ⟨⟨_, he, rfl⟩, h _ he (Heap.get?_push_of_some _ (Heap.get?_push_size _ B.free)) (by rw [Heap.size_push, hz]) fun b o x => Heap.get?_push_of_some _ (Heap.get?_push_of_some _ x)⟩
/-! ### what is walked -/
inductive Kd where
  | lst | tup | str
def SrcK (K : PySem.W.Frag) (H : Hp) : Kd → V → List V → Prop
  | .lst, v, xs => ∃ a, v = .ref a ∧ SqL K H a xs
  | .tup, v, xs => ∃ a, v = .ref a ∧ SqT K H a xs
  | .str, v, xs => ∃ x : Str, v = .str x ∧ xs = x.cps.toList.map fun c => V.str ⟨#[c]⟩
def CellK : Kd → Value → Addr → Nat → Heap → Prop
  | .lst, u, it, i, h => ∃ a, u = .ref a ∧ h.IsListIter it a i
  | .tup, u, it, i, h => ∃ a, u = .ref a ∧ h.IsTupleIter it a i
  | .str, u, it, i, h => ∃ x t, u = .str x t ∧ h.IsStrIter it (strIterType x) x t i
def srcA : Value → List Addr
  | .ref a => [a]
  | _ => []
theorem CellK.lt {k : Kd} {u : Value} {it : Addr} {i : Nat} {h : Heap} (c : CellK k u it i h) : it < h.objs.size := by
  cases k
  · obtain ⟨_, _, o, e, _⟩ := c; exact Heap.lt_size e
  · obtain ⟨_, _, o, e, _⟩ := c; exact Heap.lt_size e
  · obtain ⟨_, _, _, o, e, _⟩ := c; exact Heap.lt_size e
theorem CellK.obj {k : Kd} {u : Value} {it : Addr} {i : Nat} {h : Heap} (c : CellK k u it i h) : ∃ o, h.get? it = some o ∧ ∀ v, o.data ≠ .cell v := by
  cases k
  · obtain ⟨_, _, o, e, _, d⟩ := c; exact ⟨o, e, fun v q => by rw [d] at q; cases q⟩
  · obtain ⟨_, _, o, e, _, d⟩ := c; exact ⟨o, e, fun v q => by rw [d] at q; cases q⟩
  · obtain ⟨_, _, _, o, e, _, d⟩ := c; exact ⟨o, e, fun v q => by rw [d] at q; cases q⟩
theorem CellK.at {k : Kd} {u : Value} {it : Addr} {i : Nat} {h h' : Heap} (c : CellK k u it i h) (e : ∀ o, h.get? it = some o → h'.get? it = some o) : CellK k u it i h' := by
  cases k
  · obtain ⟨a, q, o, ho, r⟩ := c; exact ⟨a, q, o, e o ho, r⟩
  · obtain ⟨a, q, o, ho, r⟩ := c; exact ⟨a, q, o, e o ho, r⟩
  · obtain ⟨x, t, q, o, ho, r⟩ := c; exact ⟨x, t, q, o, e o ho, r⟩
section
variable {X : Cx} {pins : List (Addr × Obj)} {σ : L2.St} {H : Hp} {s : Shared} {k : Kd} {v : V} {u : Value} {xs : List V}
theorem SrcK.inj (I : Inv X pins σ H s) {ys : List V} (h : SrcK X.K H k v xs) (h' : SrcK X.K H k v ys) : ys = xs := by
  cases k
  · obtain ⟨a, rfl, h⟩ := h; obtain ⟨b, e, h'⟩ := h'; cases e; exact I.list_inj h' h
  · obtain ⟨a, rfl, h⟩ := h; obtain ⟨b, e, h'⟩ := h'; cases e; exact I.tuple_inj h' h
  · obtain ⟨x, rfl, h⟩ := h; obtain ⟨y, e, h'⟩ := h'; cases e; rw [h, h']
theorem draws_src (I : Inv X pins σ H s) (hc : X.calm = true) (h : SrcK X.K H k v xs) (r : RelV v u) {it : Addr} {i : Nat} (c : CellK k u it i s.heap) (hap : ∀ b ∈ srcA u, b ≠ it) :
    ∃ (P : Nat → Value → Prop) (St : Nat → Heap → Prop) (fp0 : List Addr), Draws X.prog X.w X.A.in1 it (it :: fp0) xs.length P St ∧ St i s.heap ∧ (∀ j y, P j y → ∃ x, xs[j]? = some x ∧ RelV x y) ∧ (∀ j h, St j h → CellK k u it j h) ∧ ∀ b ∈ fp0, b ∈ srcA u := by
  have hh : X.A.in1.handled = none := I.ok.hd hc
  cases k
  · obtain ⟨a, rfl, h⟩ := h
    obtain rfl : u = Value.ref a := r
    obtain ⟨its, rv, p, hz⟩ := I.list h
    obtain ⟨b, e, c⟩ := c
    cases e
    refine ⟨fun i v => its.toArray[i]? = some v, fun i h => h.IsListIter it a i ∧ h.IsList a its.toArray, [a], ?_, ⟨c, p.isList⟩, fun j y hy => ?_, fun j h q => ⟨a, rfl, q.1⟩, fun b hb => hb⟩
    · have D := Draws.list (prog := X.prog) (w := X.w) hh it a (hap a (by simp [srcA])) its.toArray
      rw [show its.toArray.size = xs.length by simp [rv.length]] at D
      exact D
    · have hy' : its[j]? = some y := by simpa using hy
      exact vals_getU rv hy'
  · obtain ⟨a, rfl, h⟩ := h
    obtain rfl : u = Value.ref a := r
    obtain ⟨its, rv, p, hz⟩ := I.tuple h
    obtain ⟨b, e, c⟩ := c
    cases e
    refine ⟨fun i v => its.toArray[i]? = some v, fun i h => h.IsTupleIter it a i ∧ h.IsTuple a its.toArray, [a], ?_, ⟨c, show s.heap.IsTuple a its.toArray from p⟩, fun j y hy => ?_, fun j h q => ⟨a, rfl, q.1⟩, fun b hb => hb⟩
    · have D := Draws.tuple (prog := X.prog) (w := X.w) hh it a (hap a (by simp [srcA])) its.toArray
      rw [show its.toArray.size = xs.length by simp [rv.length]] at D
      exact D
    · have hy' : its[j]? = some y := by simpa using hy
      exact vals_getU rv hy'
  · obtain ⟨x, rfl, rfl⟩ := h
    obtain ⟨t, rfl⟩ := (show ∃ t, u = Value.str x t from r)
    obtain ⟨x', t', e, c⟩ := c
    cases e
    refine ⟨fun i v => ∃ c u, x.cps[i]? = some c ∧ v = .str ⟨#[c]⟩ u, fun i h => h.IsStrIter it (strIterType x) x t i, [], ?_, c, fun j y hy => ?_, fun j h q => ⟨x, t, rfl, q⟩, fun b hb => nomatch hb⟩
    · have D := Draws.text (prog := X.prog) (w := X.w) hh it x t
      rw [show x.cps.size = (x.cps.toList.map fun c => V.str ⟨#[c]⟩).length by simp] at D
      exact D
    · obtain ⟨c, t', hc', rfl⟩ := hy
      refine ⟨.str ⟨#[c]⟩, ?_, ⟨t', rfl⟩⟩
      simp [hc']
theorem begins_src (I : Inv X pins σ H s) (h : SrcK X.K H k v xs) (r : RelV v u) : ∃ o HH, Begins u o HH ∧ HH s.heap ∧ (∀ it h', h'.get? it = some o → CellK k u it 0 h') ∧ ∀ b ∈ srcA u, b < s.heap.objs.size := by
  cases k
  · obtain ⟨a, rfl, h⟩ := h
    obtain rfl : u = Value.ref a := r
    obtain ⟨its, rv, p, hz⟩ := I.list h
    refine ⟨_, _, begins_list a its.toArray, p.isList, fun it h' e => ⟨a, rfl, _, e, rfl, rfl⟩, fun b hb => ?_⟩
    obtain rfl : b = a := by simpa [srcA] using hb
    obtain ⟨o, e, _⟩ := p.isList; exact Heap.lt_size e
  · obtain ⟨a, rfl, h⟩ := h
    obtain rfl : u = Value.ref a := r
    obtain ⟨its, rv, p, hz⟩ := I.tuple h
    refine ⟨_, _, begins_tuple a its.toArray, (show s.heap.IsTuple a its.toArray from p), fun it h' e => ⟨a, rfl, _, e, rfl, rfl⟩, fun b hb => ?_⟩
    obtain rfl : b = a := by simpa [srcA] using hb
    obtain ⟨o, e, _⟩ := id p; exact Heap.lt_size e
  · obtain ⟨x, rfl, rfl⟩ := h
    obtain ⟨t, rfl⟩ := (show ∃ t, u = Value.str x t from r)
    exact ⟨_, _, begins_text x t, trivial, fun it h' e => ⟨x, t, rfl, _, e, rfl, rfl⟩, fun b hb => by cases hb⟩
end
/-! ### enumerate -/
def ItE (K : PySem.W.Frag) (k : Kd) (v : V) : It :=
  ⟨fun i H => ∃ (xs : List V) (x : V), SrcK K H k v xs ∧ xs[i]? = some x, fun i H y H' => ∃ T x, y = .ref T ∧ H T = none ∧ H' = upd H T (.tup [.int (i : Nat), x]) ∧ ∀ xs, SrcK K H k v xs → xs[i]? = some x, fun i H => ∃ xs : List V, SrcK K H k v xs ∧ xs.length = i⟩
theorem turn_E {P : Program} {w : World} {K : PySem.W.Frag} {elts : List Expr} {kk : Nat} {tpos : Pos} {k : Kd} {v : V} {u : Value} (r : RelV v u) (N : Nat) (hap : ∀ b ∈ srcA u, b < N) :
    Turn P w K (.Tuple elts kk tpos) (ItE K k v) [N + 1, N] (N + 1) (fun i h => (∃ old, IsEnum h (N + 1) N ((0 : Int) + (i : Int)) old) ∧ CellK k u N i h) where
  mem := by simp
  obj := fun i h st b hb => by
    obtain ⟨⟨old, he⟩, c⟩ := st
    have e' : b = N + 1 ∨ b = N := by simpa using hb
    rcases e' with z | z
    · rw [z]; exact ⟨_, he, fun v q => nomatch q⟩
    · rw [z]; exact c.obj
  keep := fun i h h' st q => let ⟨⟨old, he⟩, c⟩ := st; ⟨⟨old, q (N + 1) (by simp) _ he⟩, c.at (q N (by simp))⟩
  item := by
    intro X hP hw hK hc i pins s σ H E I hf st hg
    subst hP hw hK
    obtain ⟨⟨old, he⟩, c⟩ := st
    obtain ⟨xs, x, hs, hx⟩ := hg
    obtain ⟨P, St, fp0, D, st0, hP, hSt, hfp⟩ := draws_src I hc hs r c fun b hb => Nat.ne_of_lt (hap b hb)
    have hi : i < xs.length := (List.getElem?_eq_some_iff.mp hx).1
    have hl1 : N + 1 < s.heap.objs.size := Heap.lt_size he
    have G := GoesN.enumFrom (elts := elts) (x1 := kk) (pos := tpos) 0 D (N + 1) (Nat.succ_ne_self N) (fun hm => by
      rcases List.mem_cons.mp hm with e | hm
      · exact Nat.succ_ne_self N e
      · have q : (N + 1 : Nat) < N := hap _ (hfp _ hm)
        omega) (List.mem_cons_self ..)
    refine G.goes i s _ E hi ⟨⟨old, he⟩, st0⟩ fun v2 h' tk ⟨T, t, y, ev, hT, hy, htup⟩ ⟨en, st1⟩ hk htk => ?_
    subst ev
    obtain ⟨x', hx', ry⟩ := hP i y hy
    rw [hx] at hx'; cases hx'
    have new : ObjOk X.prog X.w (upd H T (.tup [.int (i : Nat), x])) h' T (.tup [.int (i : Nat), x]) :=
      ⟨by show 2 ≤ sizeLine; decide, [.int ((0 : Int) + (i : Int)) t, y], .cons ⟨t, by rw [Int.zero_add]⟩ (.cons ry .nil), htup⟩
    refine ⟨.ref T, _, I.turnedNew (t' := tk) (ch := [N + 1, N]) (fun b o hb e => hk b o hb e) hf hT new, rfl, ⟨T, x, rfl, I.hok.fresh hT, rfl, fun ys hys => by rw [hs.inj I hys]; exact hx⟩, ⟨en, hSt _ _ st1⟩, fun b hb => ?_⟩
    have hb' : b ≠ T := by
      have e' : b = N + 1 ∨ b = N := by simpa using hb
      have hT2 : (s.heap.objs.size : Nat) ≤ T := hT
      rcases e' with z | z
      · rw [z]; exact Nat.ne_of_lt (Nat.lt_of_lt_of_le hl1 hT2)
      · rw [z]; exact Nat.ne_of_lt (Nat.lt_of_lt_of_le (Nat.lt_of_succ_lt hl1) hT2)
    rw [upd_ne hb']
    exact (hf b hb).1
  done := by
    intro X hP hw hK hc i pins s σ H E I hf st hg
    subst hP hw hK
    obtain ⟨⟨old, he⟩, c⟩ := st
    obtain ⟨xs, hs, hx⟩ := hg
    subst hx
    obtain ⟨P, St, fp0, D, st0, hP, hSt, hfp⟩ := draws_src I hc hs r c fun b hb => Nat.ne_of_lt (hap b hb)
    have G := GoesN.enumFrom (elts := elts) (x1 := kk) (pos := tpos) 0 D (N + 1) (Nat.succ_ne_self N) (fun hm => by
      rcases List.mem_cons.mp hm with e | hm
      · exact Nat.succ_ne_self N e
      · have q : (N + 1 : Nat) < N := hap _ (hfp _ hm)
        omega) (List.mem_cons_self ..)
    exact G.stops s _ E ⟨⟨old, he⟩, st0⟩ fun h' tk hk htk => I.turnedL (t' := tk) (ch := [N + 1, N]) hk hf
  self := fun A i s Q E st h => let ⟨⟨_, he⟩, _⟩ := st; wpAny_pyIter_enum he h
/-! ### zip -/
def ItZ (K : PySem.W.Frag) (k1 k2 : Kd) (v1 v2 : V) : It :=
  ⟨fun i H => ∃ (xs ys : List V) (x y : V), SrcK K H k1 v1 xs ∧ SrcK K H k2 v2 ys ∧ xs[i]? = some x ∧ ys[i]? = some y,
   fun i H z H' => ∃ T x y, z = .ref T ∧ H T = none ∧ H' = upd H T (.tup [x, y]) ∧ (∀ xs, SrcK K H k1 v1 xs → xs[i]? = some x) ∧ ∀ ys, SrcK K H k2 v2 ys → ys[i]? = some y,
   fun i H => ∃ xs ys : List V, SrcK K H k1 v1 xs ∧ SrcK K H k2 v2 ys ∧ min xs.length ys.length = i⟩
theorem turn_Z {P : Program} {w : World} {K : PySem.W.Frag} {elts : List Expr} {kk : Nat} {tpos : Pos} {k1 k2 : Kd} {v1 v2 : V} {u1 u2 : Value} (r1 : RelV v1 u1) (r2 : RelV v2 u2) (N : Nat) (hap1 : ∀ b ∈ srcA u1, b < N) (hap2 : ∀ b ∈ srcA u2, b < N) :
    Turn P w K (.Tuple elts kk tpos) (ItZ K k1 k2 v1 v2) [N + 4, N + 2, N + 3, N, N + 1] (N + 4) (fun i h => IsZip h (N + 4) (N + 2) (N + 3) .none ∧ IsTupOf2 h (N + 2) (.ref N) (.ref (N + 1)) ∧ (∃ a1 a2, IsTupOf2 h (N + 3) a1 a2) ∧ CellK k1 u1 N i h ∧ CellK k2 u2 (N + 1) i h) where
  mem := by simp
  obj := fun i h st b hb => by
    obtain ⟨hz, hTI, ⟨a1, a2, hTO⟩, c1, c2⟩ := st
    have e' : b = N + 4 ∨ b = N + 2 ∨ b = N + 3 ∨ b = N ∨ b = N + 1 := by simpa using hb
    rcases e' with z | z | z | z | z
    · rw [z]; exact ⟨_, hz, fun v q => nomatch q⟩
    · rw [z]; exact ⟨_, hTI, fun v q => nomatch q⟩
    · rw [z]; exact ⟨_, hTO, fun v q => nomatch q⟩
    · rw [z]; exact c1.obj
    · rw [z]; exact c2.obj
  keep := fun i h h' st q => by
    obtain ⟨hz, hTI, ⟨a1, a2, hTO⟩, c1, c2⟩ := st
    exact ⟨q _ (by simp) _ hz, q _ (by simp) _ hTI, ⟨a1, a2, q _ (by simp) _ hTO⟩, c1.at (q _ (by simp)), c2.at (q _ (by simp))⟩
  item := by
    intro X hP hw hK hc i pins s σ H E I hf st hg
    subst hP hw hK
    obtain ⟨hz, hTI, hTO, c1, c2⟩ := st
    obtain ⟨xs, ys, x, y, hs1, hs2, hx, hy⟩ := hg
    obtain ⟨P1, St1, fp1, D1, st1, hP1, hSt1, hfp1⟩ := draws_src I hc hs1 r1 c1 fun b hb => Nat.ne_of_lt (hap1 b hb)
    obtain ⟨P2, St2, fp2, D2, st2, hP2, hSt2, hfp2⟩ := draws_src I hc hs2 r2 c2 fun b hb => Nat.ne_of_lt (Nat.lt_succ_of_lt (hap2 b hb))
    have hi1 : i < xs.length := (List.getElem?_eq_some_iff.mp hx).1
    have hi2 : i < ys.length := (List.getElem?_eq_some_iff.mp hy).1
    have hl1 : N + 4 < s.heap.objs.size := Heap.lt_size hz
    have G := GoesN.zip2 (elts := elts) (x1 := kk) (pos := tpos) (zip_sep2 (fun b hb => hap1 b (hfp1 b hb)) (fun b hb => hap2 b (hfp2 b hb))) D1 D2
    refine G.goes i s _ E (by omega) ⟨hz, hTI, hTO, st1, st2⟩ fun v2 h' tk ⟨T, x', y', ev, hT, hx', hy', htup⟩ ⟨z1, z2, z3, s1, s2⟩ hk htk => ?_
    subst ev
    obtain ⟨x2, e1, rx⟩ := hP1 i x' hx'
    obtain ⟨y2, e2, ry⟩ := hP2 i y' hy'
    rw [hx] at e1; cases e1
    rw [hy] at e2; cases e2
    have new : ObjOk X.prog X.w (upd H T (.tup [x, y])) h' T (.tup [x, y]) := ⟨by show 2 ≤ sizeLine; decide, [x', y'], .cons rx (.cons ry .nil), htup⟩
    refine ⟨.ref T, _, I.turnedNew (t' := tk) (ch := [N + 4, N + 3, N, N + 1]) (fun b o hb e => hk b o hb e) (fun b hb => hf b ?_) hT new, rfl, ⟨T, x, y, rfl, I.hok.fresh hT, rfl, fun l hl => by rw [hs1.inj I hl]; exact hx, fun l hl => by rw [hs2.inj I hl]; exact hy⟩, ⟨z1, z2, z3, hSt1 _ _ s1, hSt2 _ _ s2⟩, fun b hb => ?_⟩
    · have e' : b = N + 4 ∨ b = N + 3 ∨ b = N ∨ b = N + 1 := by simpa using hb
      rcases e' with z | z | z | z <;> (rw [z]; simp)
    · have hb' : b ≠ T := by
        have e' : b = N + 4 ∨ b = N + 2 ∨ b = N + 3 ∨ b = N ∨ b = N + 1 := by simpa using hb
        have hT2 : (s.heap.objs.size : Nat) ≤ T := hT
        have hl2 : (N + 4 : Nat) < s.heap.objs.size := hl1
        have hbN : (b : Nat) ≤ N + 4 := by
          rcases e' with z | z | z | z | z <;> (rw [z]; first | exact Nat.le_refl _ | exact Nat.add_le_add_left (by omega) N | exact Nat.le_add_right _ _)
        exact Nat.ne_of_lt (Nat.lt_of_le_of_lt hbN (Nat.lt_of_lt_of_le hl2 hT2))
      rw [upd_ne hb']
      exact (hf b hb).1
  done := by
    intro X hP hw hK hc i pins s σ H E I hf st hg
    subst hP hw hK
    obtain ⟨hz, hTI, hTO, c1, c2⟩ := st
    obtain ⟨xs, ys, hs1, hs2, hx⟩ := hg
    subst hx
    obtain ⟨P1, St1, fp1, D1, st1, hP1, hSt1, hfp1⟩ := draws_src I hc hs1 r1 c1 fun b hb => Nat.ne_of_lt (hap1 b hb)
    obtain ⟨P2, St2, fp2, D2, st2, hP2, hSt2, hfp2⟩ := draws_src I hc hs2 r2 c2 fun b hb => Nat.ne_of_lt (Nat.lt_succ_of_lt (hap2 b hb))
    have G := GoesN.zip2 (elts := elts) (x1 := kk) (pos := tpos) (zip_sep2 (fun b hb => hap1 b (hfp1 b hb)) (fun b hb => hap2 b (hfp2 b hb))) D1 D2
    exact G.stops s _ E ⟨hz, hTI, hTO, st1, st2⟩ fun h' tk hk htk => I.turnedL (t' := tk) (ch := [N + 4, N + 3, N, N + 1]) hk fun b hb => hf b (by
      have e' : b = N + 4 ∨ b = N + 3 ∨ b = N ∨ b = N + 1 := by simpa using hb
      rcases e' with z | z | z | z <;> (rw [z]; simp))
  self := fun A i s Q E st h => wpAny_pyIter_zip st.1 h
/-! ### their rules -/
def iEn (K : PySem.W.Frag) (ta : TA) : TI := fun σ H R => ta σ H fun vs H1 => ∃ k v xs, vs = [v] ∧ SrcK K H1 k v xs ∧ R (ItE K k v) H1
theorem pi_en {X : Cx} {e : Expr} {ta : TA} {p pos tpos : Pos} {elts : List Expr} {kk : Nat} (hg : Gl X "enumerate") (hm : X.mg "enumerate" = none) (ha : PA X [e] ta) (hs : starEach [e] X.env = [(false, eval e X.env)] := by rfl) :
    PI X (.Tuple elts kk tpos) (.Call (.Name "enumerate" p) [e] [] pos) (iEn X.K ta) := by
  refine ⟨fun pins s σ H R I h => ?_⟩
  refine Call_ (ld_blt I hg hm boot_enumerate (PyProof.Rows.callWith_type1 (thn (ha.run pos pins s σ H _ I h) fun us s1 ⟨vs, H1, I1, r1, q1⟩ => ?_) hs rfl))
  obtain ⟨k, v, xs, ex, hq, q⟩ := q1
  subst ex
  cases r1 with
  | cons r rr =>
    cases rr
    obtain ⟨o, HH, B, hh, hcell, hlt⟩ := begins_src I1 hq r
    refine enum_begins1 B hh fun h' he hit hsz hk => wpAny_pyIter_enum he ?_
    have I2 : Inv X pins σ H1 { s1 with heap := h' } := I1.kept (t' := s1.toks) hk
    refine ⟨s1.heap.objs.size + 1, [s1.heap.objs.size + 1, s1.heap.objs.size], _, _, H1, rfl, I2, turn_E r s1.heap.objs.size hlt, ⟨⟨.none, by rw [show (0 : Int) + ((0 : Nat) : Int) = 0 from rfl]; exact he⟩, hcell _ _ hit⟩, fun b hb => ?_, q⟩
    have e' : b = s1.heap.objs.size + 1 ∨ b = s1.heap.objs.size := by simpa using hb
    have hle : s1.heap.objs.size ≤ b := by
      rcases e' with z | z
      · rw [z]; exact Nat.le_add_right _ _
      · rw [z]; exact Nat.le_refl _
    exact I1.fpOk hle (I1.hok.fresh hle)
def iZp (K : PySem.W.Frag) (ta : TA) : TI := fun σ H R => ta σ H fun vs H1 => ∃ k1 k2 v1 v2 xs ys, vs = [v1, v2] ∧ SrcK K H1 k1 v1 xs ∧ SrcK K H1 k2 v2 ys ∧ R (ItZ K k1 k2 v1 v2) H1
theorem pi_zp {X : Cx} {e e2 : Expr} {ta : TA} {p pos tpos : Pos} {elts : List Expr} {kk : Nat} (hg : Gl X "zip") (hm : X.mg "zip" = none) (ha : PA X [e, e2] ta)
    (hs : starEach [e, e2] X.env = (false, eval e X.env) :: starEach [e2] X.env := by rfl) (hpl : (backTo pos (starEach [e2] X.env)).any (·.1) = false := by rfl) :
    PI X (.Tuple elts kk tpos) (.Call (.Name "zip" p) [e, e2] [] pos) (iZp X.K ta) := by
  refine ⟨fun pins s σ H R I h => ?_⟩
  refine Call_ (ld_blt I hg hm PyProof.Rows.boot_zip (PyProof.Rows.callWith_type1 (thn (ha.run pos pins s σ H _ I h) fun us s1 ⟨vs, H1, I1, r1, q1⟩ => ?_) hs hpl))
  obtain ⟨k1, k2, v1, v2, xs, ys, ex, hq1, hq2, q⟩ := q1
  subst ex
  cases r1 with
  | cons r rr =>
    cases rr with
    | cons r' rr =>
      cases rr
      obtain ⟨o1, HH1, B1, hh1, hcell1, hlt1⟩ := begins_src I1 hq1 r
      obtain ⟨o2, HH2, B2, hh2, hcell2, hlt2⟩ := begins_src I1 hq2 r'
      refine zip_begins2 B1 B2 hh1 hh2 fun h' hz hTI hTO h1 h2 hsz hk => wpAny_pyIter_zip hz ?_
      have I2 : Inv X pins σ H1 { s1 with heap := h' } := I1.kept (t' := s1.toks) hk
      refine ⟨s1.heap.objs.size + 4, [s1.heap.objs.size + 4, s1.heap.objs.size + 2, s1.heap.objs.size + 3, s1.heap.objs.size, s1.heap.objs.size + 1], _, _, H1, rfl, I2, turn_Z r r' s1.heap.objs.size hlt1 hlt2, ⟨hz, hTI, ⟨_, _, hTO⟩, hcell1 _ _ h1, hcell2 _ _ h2⟩, fun c hcm => ?_, q⟩
      have e' : c = s1.heap.objs.size + 4 ∨ c = s1.heap.objs.size + 2 ∨ c = s1.heap.objs.size + 3 ∨ c = s1.heap.objs.size ∨ c = s1.heap.objs.size + 1 := by simpa using hcm
      have hle : s1.heap.objs.size ≤ c := by
        rcases e' with z | z | z | z | z
        · rw [z]; exact Nat.le_add_right _ _
        · rw [z]; exact Nat.le_add_right _ _
        · rw [z]; exact Nat.le_add_right _ _
        · rw [z]; exact Nat.le_refl _
        · rw [z]; exact Nat.le_add_right _ _
      exact I1.fpOk hle (I1.hok.fresh hle)
/-! ### in the plain world -/
section
variable {S : Stat} {X : Cx} {z : Z} {ex : PW.XC} {a b : Expr} {wa wb : PW.WE} {p pos : Pos}
theorem Rep.src {G : Hp} {v : V} {d : PW.D} {ds : List PW.D} (r : Rep S G v d) (h : PW.items d = some ds) : ∃ k xs, SrcK S.K G k v xs ∧ RepL S G xs ds := by
  cases d <;> first | cases h | skip
  · rename_i s
    obtain ⟨x, rfl, rfl⟩ := r.str_of
    refine ⟨.str, _, ⟨x, rfl, rfl⟩, ?_⟩
    unfold cpl
    generalize x.cps.toList = l
    induction l with
    | nil => exact .nil
    | cons c l ih => exact .cons (Rep.str ⟨#[c]⟩) ih
  · obtain ⟨a, xs, rfl, h1, h2⟩ := r.tup_of
    exact ⟨.tup, xs, ⟨a, rfl, h1⟩, h2⟩
  · obtain ⟨a, xs, rfl, h1, h2⟩ := r.lst_of
    exact ⟨.lst, xs, ⟨a, rfl, .inl (.inl h1)⟩, h2⟩
theorem SrcK.mono {K : PySem.W.Frag} {G H : Hp} (e : Same G H) {k : Kd} {v : V} {xs : List V} (h : SrcK K G k v xs) : SrcK K H k v xs := by
  cases k
  · obtain ⟨a, rfl, h⟩ := h; exact ⟨a, rfl, e.seq h⟩
  · obtain ⟨a, rfl, h⟩ := h; exact ⟨a, rfl, Same.seqT e h⟩
  · exact h
theorem enumL_get (k : Int) (ds : List PW.D) (i : Nat) : (PW.enumL k ds)[i]? = ds[i]?.map fun d => .tup [.int (k + i), d] := by
  induction ds generalizing k i with
  | nil => simp [PW.enumL]
  | cons d ds ih =>
    cases i with
    | zero => simp [PW.enumL]
    | succ i =>
      rw [PW.enumL, List.getElem?_cons_succ, ih, List.getElem?_cons_succ]
      congr 1; funext d; congr 3; omega
theorem enumL_len (k : Int) (ds : List PW.D) : (PW.enumL k ds).length = ds.length := by
  induction ds generalizing k with
  | nil => rfl
  | cons d ds ih => simp [PW.enumL, ih]
theorem zipL_get (as bs : List PW.D) (i : Nat) (d : PW.D) (h : (PW.zipL as bs)[i]? = some d) : ∃ a b, as[i]? = some a ∧ bs[i]? = some b ∧ d = .tup [a, b] := by
  induction as generalizing bs i with
  | nil => simp [PW.zipL] at h
  | cons a as ih =>
    cases bs with
    | nil => simp [PW.zipL] at h
    | cons b bs =>
      cases i with
      | zero => simp [PW.zipL] at h; exact ⟨a, b, rfl, rfl, h.symm⟩
      | succ i =>
        rw [PW.zipL, List.getElem?_cons_succ] at h
        obtain ⟨a', b', h1, h2, h3⟩ := ih bs i h
        exact ⟨a', b', by simpa using h1, by simpa using h2, h3⟩
theorem zipL_len (as bs : List PW.D) : (PW.zipL as bs).length = min as.length bs.length := by
  induction as generalizing bs with
  | nil => simp [PW.zipL]
  | cons a as ih => cases bs with
    | nil => simp [PW.zipL]
    | cons b bs => simp only [PW.zipL, List.length_cons, ih]; omega
/-- a pair is laid -/
theorem EnvOk.pair {z' : Z} {G H : Hp} {ρ : PW.Env} {σ : L2.St} {T : Addr} {x y : V} {dx dy : PW.D} (ok : EnvOk S z' G ρ σ H) (hT : H T = none) (rx : Rep S G x dx) (ry : Rep S G y dy) :
    ∃ G', EnvOk S z' G' ρ σ (upd H T (.tup [x, y])) ∧ Same G G' ∧ Rep S G' (.ref T) (.tup [dx, dy]) ∧ ∀ D o, H D = some o → upd H T (.tup [x, y]) D = some o ∧ (G D = none → G' D = none) := by
  obtain ⟨E', sg⟩ := ok.laid hT (.tup [x, y])
  refine ⟨_, E', sg, .tup (SqT.of upd_same) (.cons (rx.mono sg) (.cons (ry.mono sg) .nil)), fun D o h => ?_⟩
  have ne : D ≠ T := fun e => by rw [e, hT] at h; cases h
  exact ⟨by rw [upd_ne ne]; exact h, fun g => by rw [upd_ne ne]; exact g⟩
theorem si_en {elts : List Expr} {kk : Nat} {tpos : Pos} (hm : X.mg "enumerate" = none) (ha : SE S z ex X a wa) (hg : Gl X "enumerate" := by rfl) (hK : X.K = S.K := by rfl) (hs : starEach [a] X.env = [(false, eval a X.env)] := by rfl) :
    SI S z ex X (.Tuple elts kk tpos) (.Call (.Name "enumerate" p) [a] [] pos) (PW.iEnum wa) := pi_imp (pi_en hg hm (pa_cons ha pa_nil hs) hs) fun σ H R ⟨G, ρ, k, ok, h, q⟩ =>
  ⟨G, ρ, _, ok, h, fun v H1 G1 ρ1 d ok1 sg1 r h1 => by
    cases e : PW.items d with
    | none => rw [e] at h1; exact h1.elim
    | some ds =>
      rw [e] at h1
      obtain ⟨kd, xs, hsrc, rl⟩ := r.src e
      refine ⟨kd, v, xs, rfl, hK ▸ hsrc.mono ok1.same, q _ H1 G1 ρ1 _ ok1 sg1 (fun i z2 G2 ρ2 σ2 H2 ok2 sg2 => ⟨fun d2 hd2 => ?_, fun e => ?_⟩) h1⟩
      · rw [enumL_get] at hd2
        obtain ⟨d0, e0, rfl⟩ := Option.map_eq_some_iff.mp hd2
        obtain ⟨x, hx, rx⟩ := rl.get e0
        refine ⟨⟨xs, x, hK ▸ hsrc.mono (sg2.trans ok2.same), hx⟩, fun y H' ⟨T, x', ey, hT, eH, hall⟩ => ?_⟩
        subst ey eH
        have hx' := hall xs (hK ▸ hsrc.mono (sg2.trans ok2.same))
        rw [hx] at hx'; cases hx'
        have := ok2.pair (dx := .int (0 + i)) hT (by rw [Int.zero_add]; exact .int _) (rx.mono sg2)
        exact this
      · rw [enumL_len] at e
        exact ⟨xs, hK ▸ hsrc.mono (sg2.trans ok2.same), by rw [rl.len, e]⟩⟩
theorem si_zp {elts : List Expr} {kk : Nat} {tpos : Pos} (hm : X.mg "zip" = none) (ha : SE S z ex X a wa) (hb : SE S z ex X b wb) (hg : Gl X "zip" := by rfl) (hK : X.K = S.K := by rfl) (hs : starEach [a, b] X.env = (false, eval a X.env) :: starEach [b] X.env := by rfl)
    (hs2 : starEach [b] X.env = [(false, eval b X.env)] := by rfl) (hpl : (backTo pos (starEach [b] X.env)).any (·.1) = false := by rfl) :
    SI S z ex X (.Tuple elts kk tpos) (.Call (.Name "zip" p) [a, b] [] pos) (PW.iZip wa wb) := pi_imp (pi_zp hg hm (pa_cons ha (pa_cons hb pa_nil hs2) hs) hs hpl) fun σ H R ⟨G, ρ, k, ok, h, q⟩ =>
  ⟨G, ρ, _, ok, h, fun v H1 G1 ρ1 d ok1 sg1 r h1 => ⟨G1, ρ1, _, ok1, h1, fun v' H2 G2 ρ2 d' ok2 sg2 r' h2 => by
    cases e : PW.items d with
    | none => rw [e] at h2; exact h2.elim
    | some ds =>
      rw [e] at h2
      cases e' : PW.items d' with
      | none => rw [e'] at h2; exact h2.elim
      | some ds' =>
        rw [e'] at h2
        obtain ⟨kd, xs, hsrc, rl⟩ := (r.mono sg2).src e
        obtain ⟨kd', ys, hsrc', rl'⟩ := r'.src e'
        refine ⟨kd, kd', v, v', xs, ys, rfl, hK ▸ hsrc.mono ok2.same, hK ▸ hsrc'.mono ok2.same, q _ H2 G2 ρ2 _ ok2 (sg1.trans sg2) (fun i z3 G3 ρ3 σ3 H3 ok3 sg3 => ⟨fun d2 hd2 => ?_, fun e => ?_⟩) h2⟩
        · obtain ⟨d0, d1, e0, e1, rfl⟩ := zipL_get _ _ _ _ hd2
          obtain ⟨x, hx, rx⟩ := rl.get e0
          obtain ⟨y, hy, ry⟩ := rl'.get e1
          refine ⟨⟨xs, ys, x, y, hK ▸ hsrc.mono (sg3.trans ok3.same), hK ▸ hsrc'.mono (sg3.trans ok3.same), hx, hy⟩, fun w H' ⟨T, x', y', ew, hT, eH, hall, hall'⟩ => ?_⟩
          subst ew eH
          have hx' := hall xs (hK ▸ hsrc.mono (sg3.trans ok3.same))
          have hy' := hall' ys (hK ▸ hsrc'.mono (sg3.trans ok3.same))
          rw [hx] at hx'; cases hx'
          rw [hy] at hy'; cases hy'
          exact ok3.pair hT (rx.mono sg3) (ry.mono sg3)
        · rw [zipL_len] at e
          exact ⟨xs, ys, hK ▸ hsrc.mono (sg3.trans ok3.same), hK ▸ hsrc'.mono (sg3.trans ok3.same), by rw [rl.len, rl'.len, e]⟩⟩⟩
end
end PS
end

section
set_option Elab.async false
set_option linter.all false
set_option maxRecDepth 100000
set_option maxHeartbeats 4000000
/-! PS15: what is called, in one piece. -/
namespace PS
open PySem PySem.Spec L2
open PyProof.Rows hiding St
/-- the def x keeps the promise φ; dds: the defaults that fill up; n: as many arguments are written -/
structure Callee (S : Stat) (mg : Str → Option Value) (base : Heap) (j : Nat) (x : Str) (φ : PW.FSpec) (dds : List PW.D) : Prop where
  ex : ∃ f fd ps dvs ds, FnOk S.P S.w S.K mg base (L2.CX S.P S.w) j f fd ps (spOf S φ) ∧ mg x = some (.ref f) ∧ PySem.W.keepIn S.K (.ref f) = true ∧ Binds S.K fd ps ds ∧ Vals dvs ds ∧ ∀ G, RepL S G dvs dds
structure MCallee (S : Stat) (mg : Str → Option Value) (base : Heap) (j : Nat) (c m : String) (φ : PW.FSpec) (dds : List PW.D) : Prop where
  ex : ∃ C f fd ps dvs ds, S.cls c = some C ∧ Cls S.K C ∧ Meth S.K C (Str.ofString m) f ∧ FnOk S.P S.w S.K mg base (L2.CX S.P S.w) j f fd ps (spOf S φ) ∧ Binds S.K fd ps ds ∧ Vals dvs ds ∧ ∀ G, RepL S G dvs dds
structure Maker (S : Stat) (mg : Str → Option Value) (base : Heap) (j : Nat) (c : String) (φ : PW.FSpec) (dds : List PW.D) : Prop where
  ex : ∃ C f fd ps dvs ds, S.cls c = some C ∧ Mk S.K C f ∧ mg (Str.ofString c) = some (.ref C) ∧ FnOk S.P S.w S.K mg base (L2.CX S.P S.w) j f fd ps (spOf S φ) ∧ Binds S.K fd ps ds ∧ Vals dvs ds ∧ ∀ G, RepL S G dvs dds
section
variable {S : Stat} {X : Cx} {z : Z} {ex : PW.XC} {a e o : Expr} {es : List Expr} {wb : PW.WB} {pos p apos : Pos} {j i : Nat} {φ : PW.FSpec} {dds : List PW.D} {x : Str}
theorem kc (c : Callee S X.mg X.base j x φ dds) (hr : Room i X.A) (tk : Takes X (WOf S z ex)) (ha : SL S z ex X (e :: es) wb) (hj : j ≤ i := by omega) (hP : X.prog = S.P := by rfl) (hW : X.w = S.w := by rfl) (hK : X.K = S.K := by rfl)
    (hg : Gl X x := by rfl) (hdb : (x == ("__debug__" : Str)) = false := by decide) (he : starEach (e :: es) X.env = (false, eval e X.env) :: starEach es X.env := by rfl) (hpl : (backTo pos (starEach es X.env)).any (·.1) = false := by rfl) :
    KE S z ex X (.Call (.Name x p) (e :: es) [] pos) (PW.kCall φ dds wb) := by
  obtain ⟨f, fd, ps, dvs, ds, F, h1, h2, h3, h4, h5⟩ := c.ex
  exact k_call (by rw [hP, hW, hK]; exact F) (hr.mono hj) h1 (hK ▸ h2) (hK ▸ h3) h4 h5 tk ha hg hdb he hpl
theorem kc0 (c : Callee S X.mg X.base j x φ dds) (hr : Room i X.A) (tk : Takes X (WOf S z ex)) (hj : j ≤ i := by omega) (hP : X.prog = S.P := by rfl) (hW : X.w = S.w := by rfl) (hK : X.K = S.K := by rfl)
    (hg : Gl X x := by rfl) (hdb : (x == ("__debug__" : Str)) = false := by decide) : KE S z ex X (.Call (.Name x p) [] [] pos) (PW.kCall φ dds PW.bNil) := by
  obtain ⟨f, fd, ps, dvs, ds, F, h1, h2, h3, h4, h5⟩ := c.ex
  exact k_call0 (by rw [hP, hW, hK]; exact F) (hr.mono hj) h1 (hK ▸ h2) (hK ▸ h3) h4 h5 tk hg hdb
theorem km {c ms : String} {wo : PW.WO} {pl : Sem Bool} (C : MCallee S X.mg X.base j c ms φ dds) (hr : Room i X.A) (tk : Takes X (WOf S z ex)) (ho : SO S z ex X o wo) (ha : SL S z ex X (e :: es) wb) (hj : j ≤ i := by omega) (hP : X.prog = S.P := by rfl) (hW : X.w = S.w := by rfl) (hK : X.K = S.K := by rfl)
    (hst : starEach (e :: es) X.env = (false, eval e X.env) :: starEach es X.env := by rfl) (hpl : (backTo pos (starEach es X.env)).any (·.1) = false := by rfl)
    (ht : eval (.Call (.Attribute o (Str.ofString ms) apos) (e :: es) [] pos) X.env = (do
      let ov ← eval o X.env
      standAt apos.atName
      let (f, first) ← holding [ov] (getMethod ov (Str.ofString ms) pl)
      callWith pos f first (backTo pos (starEach (e :: es) X.env)) (backToKw pos (keywordEach [] X.env))) := by rfl) :
    KE S z ex X (.Call (.Attribute o (Str.ofString ms) apos) (e :: es) [] pos) (PW.kMeth c ms wo φ dds wb) := by
  obtain ⟨Ca, f, fd, ps, dvs, ds, h0, h1, h2, F, h3, h4, h5⟩ := C.ex
  exact k_meth h0 (hK ▸ h1) (hK ▸ h2) (by rw [hP, hW, hK]; exact F) (hr.mono hj) (hK ▸ h3) h4 h5 tk ho ha hst hpl ht
theorem km0 {c ms : String} {wo : PW.WO} {pl : Sem Bool} (C : MCallee S X.mg X.base j c ms φ dds) (hr : Room i X.A) (tk : Takes X (WOf S z ex)) (ho : SO S z ex X o wo) (hj : j ≤ i := by omega) (hP : X.prog = S.P := by rfl) (hW : X.w = S.w := by rfl) (hK : X.K = S.K := by rfl)
    (ht : eval (.Call (.Attribute o (Str.ofString ms) apos) [] [] pos) X.env = (do
      let ov ← eval o X.env
      standAt apos.atName
      let (f, first) ← holding [ov] (getMethod ov (Str.ofString ms) pl)
      callWith pos f first (backTo pos (starEach [] X.env)) (backToKw pos (keywordEach [] X.env))) := by rfl) :
    KE S z ex X (.Call (.Attribute o (Str.ofString ms) apos) [] [] pos) (PW.kMeth c ms wo φ dds PW.bNil) := by
  obtain ⟨Ca, f, fd, ps, dvs, ds, h0, h1, h2, F, h3, h4, h5⟩ := C.ex
  exact k_meth0 h0 (hK ▸ h1) (hK ▸ h2) (by rw [hP, hW, hK]; exact F) (hr.mono hj) (hK ▸ h3) h4 h5 tk ho ht
theorem kn {c : String} (C : Maker S X.mg X.base j c φ dds) (hr : Room i X.A) (tk : Takes X (WOf S z ex)) (ha : SL S z ex X (e :: es) wb) (hj : j + 1 ≤ i := by omega) (hP : X.prog = S.P := by rfl) (hW : X.w = S.w := by rfl) (hK : X.K = S.K := by rfl)
    (hg : Gl X (Str.ofString c) := by rfl) (hdb : (Str.ofString c == ("__debug__" : Str)) = false := by decide) (he : starEach (e :: es) X.env = (false, eval e X.env) :: starEach es X.env := by rfl) (hpl : (backTo pos (starEach es X.env)).any (·.1) = false := by rfl) :
    KE S z ex X (.Call (.Name (Str.ofString c) p) (e :: es) [] pos) (PW.kMake c φ dds wb) := by
  obtain ⟨Ca, f, fd, ps, dvs, ds, h0, h1, h2, F, h3, h4, h5⟩ := C.ex
  exact k_make h0 (hK ▸ h1) (by rw [hP, hW, hK]; exact F) (hr.mono hj) h2 (hK ▸ h3) h4 h5 tk ha hg hdb he hpl
theorem kn0 {c : String} (C : Maker S X.mg X.base j c φ dds) (hr : Room i X.A) (tk : Takes X (WOf S z ex)) (hj : j + 1 ≤ i := by omega) (hP : X.prog = S.P := by rfl) (hW : X.w = S.w := by rfl) (hK : X.K = S.K := by rfl)
    (hg : Gl X (Str.ofString c) := by rfl) (hdb : (Str.ofString c == ("__debug__" : Str)) = false := by decide) :
    KE S z ex X (.Call (.Name (Str.ofString c) p) [] [] pos) (PW.kMake c φ dds PW.bNil) := by
  obtain ⟨Ca, f, fd, ps, dvs, ds, h0, h1, h2, F, h3, h4, h5⟩ := C.ex
  exact k_make0 h0 (hK ▸ h1) (by rw [hP, hW, hK]; exact F) (hr.mono hj) h2 (hK ▸ h3) h4 h5 tk hg hdb
end
end PS
end

section
set_option Elab.async false
set_option linter.all false
set_option maxRecDepth 100000
set_option maxHeartbeats 4000000
/-! PS16: written dicts with text keys; in by an own __contains__. -/
namespace PS
open PySem PySem.Spec L2
open PyProof.Rows hiding St
/-- the written dict of the name x -/
structure TabOk (S : Stat) (mg : Str → Option Value) (x : Str) (kvs : List (List Nat × PW.D)) : Prop where
  ex : ∃ d es n, mg x = some (.ref d) ∧ KDict S.K S.w d es n ∧ ∀ z : Str, match kvs.lookup (cpl z) with
    | some dv => ∃ u v, PySem.W.nsIn S.K d z = some (some u) ∧ RelV v u ∧ ∀ G, Rep S G v dv
    | none => PySem.W.nsIn S.K d z = some none
section
variable {S : Stat} {X : Cx} {z : Z} {ex : PW.XC} {a b e o : Expr} {wa : PW.WE} {pos p : Pos} {x : Str} {kvs : List (List Nat × PW.D)}
theorem se_tab (T : TabOk S X.mg x kvs) (hb : SE S z ex X b wa) (hs : PlainIx b := by exact fun _ _ => rfl) (hW : X.w = S.w := by rfl) (hK : X.K = S.K := by rfl) (hg : Gl X x := by rfl) (hdb : (x == ("__debug__" : Str)) = false := by decide) :
    SE S z ex X (.Subscript (.Name x p) b pos) (PW.wUn (PW.fTab kvs) wa) := by
  obtain ⟨d, es, n, hm, D, hk⟩ := T.ex
  refine pe_imp (pe_ix (r := rIxD X.K X.w) ix_kdict (pe_glob (v := .ref d) hg hm rfl hdb) hb hs) fun σ H Q ⟨G, ρ, q, E, w, k⟩ => ?_
  refine ⟨G, ρ, _, E, w, fun v H1 G1 ρ1 dd E1 sg1 r1 h1 => ?_⟩
  cases dd <;> first | exact h1.elim | skip
  rename_i s
  obtain ⟨y, rfl, rfl⟩ := r1.str_of
  have hz := hk y
  have h2 : (match kvs.lookup (cpl y) with
    | some d => q d ρ1
    | none => False) := h1
  cases el : kvs.lookup (cpl y) with
  | none => rw [el] at h2; exact h2.elim
  | some dv =>
    rw [el] at h2 hz
    obtain ⟨u, v, e1, e2, e3⟩ := hz
    exact ⟨d, y, v, rfl, rfl, ⟨es, n, u, hK ▸ D.at_, hW ▸ D.lit, hK ▸ e1, e2⟩, k v H1 G1 ρ1 dv E1 sg1 (e3 G1) h2⟩
theorem tab_in (T : TabOk S X.mg x kvs) (hW : X.w = S.w) (hK : X.K = S.K) : ∃ d, X.mg x = some (.ref d) ∧ (∃ r : R2, OpR X (compareOp .In) r ∧ ∀ (y : Str) H Q, Q (.bl (kvs.lookup (cpl y)).isSome) H → r (.str y) (.ref d) H Q) ∧ ∃ r : R2, OpR X (compareOp .NotIn) r ∧ ∀ (y : Str) H Q, Q (.bl (!(kvs.lookup (cpl y)).isSome)) H → r (.str y) (.ref d) H Q := by
  obtain ⟨d, es, n, hm, D, hk⟩ := T.ex
  have D' : KDict X.K X.w d es n := by rw [hK, hW]; exact D
  have main : ∀ y : Str, ∃ r : Option Value, PySem.W.nsIn X.K d y = some r ∧ r.isSome = (kvs.lookup (cpl y)).isSome := fun y => by
    have hz := hk y
    cases el : kvs.lookup (cpl y) with
    | none => rw [el] at hz; exact ⟨none, hK ▸ hz, rfl⟩
    | some dv => rw [el] at hz; obtain ⟨u, v, e1, _⟩ := hz; exact ⟨some u, hK ▸ e1, rfl⟩
  exact ⟨d, hm, ⟨_, op_in_kd D', fun y H Q q => by
    obtain ⟨r, e1, e2⟩ := main y
    exact ⟨y, r, rfl, rfl, e1, by rw [e2]; exact q⟩⟩, ⟨_, op_notIn_kd D', fun y H Q q => by
    obtain ⟨r, e1, e2⟩ := main y
    exact ⟨y, r, rfl, rfl, e1, by rw [e2]; exact q⟩⟩⟩
theorem tTab {f : PW.F1} {g : List Nat → Bool} {r : R2} {d : Addr} {σ : L2.St} {H : Hp} {Q : VK} (hf : ∀ d q, f d q → ∃ s, d = .str s ∧ q (.bl (g s))) (hr : ∀ (y : Str) H Q, Q (.bl (g (cpl y))) H → r (.str y) (.ref d) H Q) (h : TOf S z ex (PW.wUn f wa) σ H Q) :
    tOp r (TOf S z ex wa) (tC (.ref d)) σ H Q := by
  obtain ⟨G, ρ, q, E, w, k⟩ := h
  refine ⟨G, ρ, _, E, w, fun v H1 G1 ρ1 dd E1 sg1 r1 h1 => ?_⟩
  obtain ⟨s, rfl, hq⟩ := hf _ _ h1
  obtain ⟨y, rfl, rfl⟩ := r1.str_of
  exact hr y H1 _ (k _ H1 G1 ρ1 _ E1 sg1 (.bl _) hq)
theorem f_in : ∀ d q, PW.fInTab kvs d q → ∃ s, d = .str s ∧ q (.bl (kvs.lookup s).isSome) := fun d q h => by
  cases d <;> first | exact h.elim | skip
  exact ⟨_, rfl, h⟩
theorem f_nin : ∀ d q, PW.fNInTab kvs d q → ∃ s, d = .str s ∧ q (.bl (!(kvs.lookup s).isSome)) := fun d q h => by
  cases d <;> first | exact h.elim | skip
  exact ⟨_, rfl, h⟩
theorem se_intab (T : TabOk S X.mg x kvs) (ha : SE S z ex X a wa) (hW : X.w = S.w := by rfl) (hK : X.K = S.K := by rfl) (hg : Gl X x := by rfl) (hm : behindInMarks .In (.Name x p) = false := by rfl) (hdb : (x == ("__debug__" : Str)) = false := by decide) : SE S z ex X (.Compare a [.In] [.Name x p] pos) (PW.wUn (PW.fInTab kvs) wa) := by
  obtain ⟨d, h1, ⟨r, h2, h3⟩, _⟩ := tab_in T hW hK
  exact pe_imp (pe_cmpR h2 ha (pe_glob (v := .ref d) hg h1 rfl hdb) hm) fun _ _ _ => tTab (f_in (kvs := kvs)) h3
theorem st_intab (T : TabOk S X.mg x kvs) (ha : SE S z ex X a wa) (hW : X.w = S.w := by rfl) (hK : X.K = S.K := by rfl) (hg : Gl X x := by rfl) (hm : behindInMarks .In (.Name x p) = false := by rfl) (hdb : (x == ("__debug__" : Str)) = false := by decide) : ST S z ex X (.Compare a [.In] [.Name x p] pos) (PW.tB (PW.wUn (PW.fInTab kvs) wa)) := by
  obtain ⟨d, h1, ⟨r, h2, h3⟩, _⟩ := tab_in T hW hK
  exact pt_imp (pt_cmpR h2 ha (pe_glob (v := .ref d) hg h1 rfl hdb) hm) fun _ _ _ h => tTab (f_in (kvs := kvs)) h3 (ttest h)
theorem se_nintab (T : TabOk S X.mg x kvs) (ha : SE S z ex X a wa) (hW : X.w = S.w := by rfl) (hK : X.K = S.K := by rfl) (hg : Gl X x := by rfl) (hm : behindInMarks .NotIn (.Name x p) = false := by rfl) (hdb : (x == ("__debug__" : Str)) = false := by decide) : SE S z ex X (.Compare a [.NotIn] [.Name x p] pos) (PW.wUn (PW.fNInTab kvs) wa) := by
  obtain ⟨d, h1, _, ⟨r, h2, h3⟩⟩ := tab_in T hW hK
  exact pe_imp (pe_cmpR h2 ha (pe_glob (v := .ref d) hg h1 rfl hdb) hm) fun _ _ _ => tTab (f_nin (kvs := kvs)) h3
theorem st_nintab (T : TabOk S X.mg x kvs) (ha : SE S z ex X a wa) (hW : X.w = S.w := by rfl) (hK : X.K = S.K := by rfl) (hg : Gl X x := by rfl) (hm : behindInMarks .NotIn (.Name x p) = false := by rfl) (hdb : (x == ("__debug__" : Str)) = false := by decide) : ST S z ex X (.Compare a [.NotIn] [.Name x p] pos) (PW.tB (PW.wUn (PW.fNInTab kvs) wa)) := by
  obtain ⟨d, h1, _, ⟨r, h2, h3⟩⟩ := tab_in T hW hK
  exact pt_imp (pt_cmpR h2 ha (pe_glob (v := .ref d) hg h1 rfl hdb) hm) fun _ _ _ h => tTab (f_nin (kvs := kvs)) h3 (ttest h)
end
/-! ### in by an own __contains__ -/
section
variable {X : Cx} {CX : CXT} {j : Nat} {f C : Addr} {fd : FuncData} {ps : List Str} {sp : Sp}
def rInO (C : Addr) (sp : Sp) (neg : Bool) : R2 := fun x y H Q => ∃ a dx fs, y = .ref a ∧ H a = some (.ins C dx fs) ∧ sp [y, x] H (fun v H' => ∃ b, v = .bl b ∧ Q (.bl (xor b neg)) H') (fun _ _ _ => False)
theorem contains_own {pins : List (Addr × Obj)} {σ : L2.St} {H : Hp} {s : Shared} {a dx : Addr} {fs : List (Str × V)} {x : V} {u : Value} {Q : Bool → Shared → Prop} (hM : Meth X.K C "__contains__" f) (F : FnOk X.prog X.w X.K X.mg X.base (L2.CX X.prog X.w) j f fd ps sp) (hr : Room j X.A) (hb : Binds X.K fd ps [])
    (I : Inv X pins σ H s) (ha : H a = some (.ins C dx fs)) (r : RelV x u)
    {Kb : Bool → Hp → Prop} (h : sp [.ref a, x] H (fun v H' => ∃ b, v = .bl b ∧ Kb b H') (fun _ _ _ => False)) (hk : ∀ b H' s', Inv X pins σ H' s' → Kb b H' → Q b s') : wpAny (model X.prog X.w) X.A (contains (.ref a) u) Q X.xe s := by
  obtain ⟨mA, O, _⟩ := ins_get I.hok ha
  obtain ⟨od, J, _⟩ := O.look
  unfold contains
  refine wpAny_holding ?_
  show wpAny _ _ (specialOf (.ref a) "__contains__" >>= _) _ _ s
  unfold specialOf
  refine wpAny_bind (wpAny_bind (J.type.here ((PySem.W.looks_findIn I.kIn hM.at_).here ?_)))
  show wpAny _ _ (callSpecialUnlessNone? (.ref a) "__contains__" [u] _ >>= _) _ _ s
  unfold callSpecialUnlessNone? specialOf
  refine wpAny_bind (wpAny_bind (wpAny_bind (J.type.here ((PySem.W.looks_findIn I.kIn hM.at_).here ?_))))
  refine wpAny_holding ?_
  refine wpAny_bind ((PySem.W.bind_fn I.kIn _ (beq_iff_eq.mp hM.fn)).here ?_)
  show wpAny _ _ (call (.ref f) ([.ref a] ++ [u]) >>= _) _ _ s
  refine wpAny_bind ?_
  have q := run_fnSD (us := [.ref a, u]) (vs := [.ref a, x]) (dvs := []) (ds := []) (E := fun _ => fun _ _ _ => False) (pins := pins) (σ := σ) (Q := fun v H' => ∃ b, v = .bl b ∧ Kb b H') F hr hb .nil (passAt (W := fun _ _ _ _ => False) takes0 σ) I (.cons rfl (.cons r .nil)) h
  refine wpAny_mono q (fun v s' ⟨y, H', I', ry, b, ey, hq⟩ => ?_) fun _ _ z => z
  subst ey
  obtain rfl : v = Value.bool b := ry
  refine wpAny_pure ?_
  exact wpAny_truthy_bool (hk _ _ _ I' hq)
theorem op_inO (hM : Meth X.K C "__contains__" f) (F : FnOk X.prog X.w X.K X.mg X.base (L2.CX X.prog X.w) j f fd ps sp) (hr : Room j X.A) (hb : Binds X.K fd ps []) : OpR X (compareOp .In) (rInO C sp false) := by
  intro pins s σ H x y v u Q I rx ry ⟨a, dx, fs, e, ha, h⟩
  subst e
  obtain rfl : u = Value.ref a := ry
  show wpAny _ _ (contains (.ref a) v >>= fun b => pure (Value.bool b)) _ _ s
  exact wpAny_bind (contains_own hM F hr hb I ha rx h fun b H' s' I' q => wpAny_pure ⟨.bl b, H', I', rfl, by rwa [Bool.xor_false] at q⟩)
theorem op_ninO (hM : Meth X.K C "__contains__" f) (F : FnOk X.prog X.w X.K X.mg X.base (L2.CX X.prog X.w) j f fd ps sp) (hr : Room j X.A) (hb : Binds X.K fd ps []) : OpR X (compareOp .NotIn) (rInO C sp true) := by
  intro pins s σ H x y v u Q I rx ry ⟨a, dx, fs, e, ha, h⟩
  subst e
  obtain rfl : u = Value.ref a := ry
  show wpAny _ _ (contains (.ref a) v >>= fun b => pure (Value.bool (!b))) _ _ s
  exact wpAny_bind (contains_own hM F hr hb I ha rx h fun b H' s' I' q => wpAny_pure ⟨.bl (!b), H', I', rfl, by rwa [Bool.xor_true] at q⟩)
end
section
variable {S : Stat} {X : Cx} {z : Z} {ex : PW.XC} {a b e o : Expr} {wa : PW.WE} {wo : PW.WO} {pos p : Pos} {i j : Nat} {φ : PW.FSpec} {c : String}
theorem tInO {C : Addr} {neg : Bool} (hS : S.cls c = some C) {w : PW.WE} (hw : ∀ ρ q, w ex ρ q → wa ex ρ fun x ρ1 => wo ex ρ1 fun ar d ρ2 => PW.isCls c d ∧ PW.call φ [ar, .v x] (fun _ _ => False) ρ2 fun r ρ3 => match r with
    | .sh (.bl b) => q (.bl (xor b neg)) ρ3
    | _ => False) {σ : L2.St} {H : Hp} {Q : VK} (h : TOf S z ex w σ H Q) : tOp (rInO C (spOf S φ) neg) (TOf S z ex wa) (TOO S z ex wo) σ H Q := by
  obtain ⟨G, ρ, q, E, w, k⟩ := h
  refine ⟨G, ρ, _, E, hw _ _ w, fun x H1 G1 ρ1 dx E1 sg1 r1 h1 => ⟨G1, ρ1, _, E1, h1, fun y H2 G2 ρ2 ar d E2 sg2 A2 lk ⟨hc, h2⟩ => ?_⟩⟩
  cases d <;> first | exact hc.elim | skip
  obtain rfl : _ = c := hc
  obtain ⟨a, C', dx', fs, rfl, ha, hc', r⟩ := lk.obj_of E2.same
  rw [hS] at hc'; cases hc'
  refine ⟨a, dx', fs, rfl, ha, ?_⟩
  have main : spOf S φ [.ref a, x] H2 (fun v H' => ∃ b, v = .bl b ∧ Q (.bl (xor b neg)) H') (L2.WE (WOf S z PW.noX) σ) :=
    call_core (vs := [.ref a, x]) E2 (A2.app (as := [ar]) (.v (r1.mono sg2) .nil)) h2 fun v H3 G3 ρ3 r E3 sg3 ro hq => by
      cases r with
      | sh d =>
        cases d with
        | bl b => exact ⟨b, ro.bl_of, k _ H3 G3 ρ3 _ E3 (sg1.trans (sg2.trans sg3)) (.bl _) hq⟩
        | _ => exact hq.elim
      | _ => exact hq.elim
  obtain ⟨G5, ss, q5, e5, E5, h5, hq5, he5⟩ := main
  refine ⟨G5, ss, q5, e5, E5, h5, hq5, fun cls d H' G' os en F xo hx => ?_⟩
  obtain ⟨G6, ρ6, e6, E6, x6, h6⟩ := he5 cls d H' G' os en F xo hx
  exact h6
theorem in_w : ∀ ρ q, PW.wInO c wa φ wo ex ρ q → wa ex ρ fun x ρ1 => wo ex ρ1 fun ar d ρ2 => PW.isCls c d ∧ PW.call φ [ar, .v x] (fun _ _ => False) ρ2 fun r ρ3 => match r with
    | .sh (.bl b) => q (.bl (xor b false)) ρ3
    | _ => False := fun ρ q h => by
  have e : (fun (r : PW.Ret) (ρ3 : PW.Env) => match r with
    | .sh (.bl b) => q (.bl (xor b false)) ρ3
    | _ => False) = fun (r : PW.Ret) (ρ3 : PW.Env) => match r with
    | .sh (.bl b) => q (.bl b) ρ3
    | _ => False := by
    funext r ρ3; cases r <;> try rfl
    rename_i d; cases d <;> try rfl
    show q (.bl (xor _ false)) ρ3 = q (.bl _) ρ3
    rw [Bool.xor_false]
  rw [e]; exact h
theorem nin_w : ∀ ρ q, PW.wNInO c wa φ wo ex ρ q → wa ex ρ fun x ρ1 => wo ex ρ1 fun ar d ρ2 => PW.isCls c d ∧ PW.call φ [ar, .v x] (fun _ _ => False) ρ2 fun r ρ3 => match r with
    | .sh (.bl b) => q (.bl (xor b true)) ρ3
    | _ => False := fun ρ q h => by
  have e : (fun (r : PW.Ret) (ρ3 : PW.Env) => match r with
    | .sh (.bl b) => q (.bl (xor b true)) ρ3
    | _ => False) = fun (r : PW.Ret) (ρ3 : PW.Env) => match r with
    | .sh (.bl b) => q (.bl (!b)) ρ3
    | _ => False := by
    funext r ρ3; cases r <;> try rfl
    rename_i d; cases d <;> try rfl
    show q (.bl (xor _ true)) ρ3 = q (.bl (!_)) ρ3
    rw [Bool.xor_true]
  rw [e]; exact h
theorem se_inO (C : MCallee S X.mg X.base j c "__contains__" φ []) (hr : Room i X.A) (ha : SE S z ex X a wa) (hb : SO S z ex X b wo) (hj : j ≤ i := by omega) (hm : behindInMarks .In b = false := by rfl) (hP : X.prog = S.P := by rfl) (hW : X.w = S.w := by rfl) (hK : X.K = S.K := by rfl) : SE S z ex X (.Compare a [.In] [b] pos) (PW.wInO c wa φ wo) := by
  obtain ⟨Ca, f, fd, ps, dvs, ds, h0, h1, h2, F, h3, h4, h5⟩ := C.ex
  obtain rfl : dvs = [] := by have := h5 (fun _ => none); cases this; rfl
  cases h4
  exact pe_imp (pe_cmpR (op_inO (hK ▸ h2) (by rw [hP, hW, hK]; exact F) (hr.mono hj) (hK ▸ h3)) ha hb hm) fun _ _ _ h => tInO h0 in_w h
theorem st_inO (C : MCallee S X.mg X.base j c "__contains__" φ []) (hr : Room i X.A) (ha : SE S z ex X a wa) (hb : SO S z ex X b wo) (hj : j ≤ i := by omega) (hm : behindInMarks .In b = false := by rfl) (hP : X.prog = S.P := by rfl) (hW : X.w = S.w := by rfl) (hK : X.K = S.K := by rfl) : ST S z ex X (.Compare a [.In] [b] pos) (PW.tB (PW.wInO c wa φ wo)) := by
  obtain ⟨Ca, f, fd, ps, dvs, ds, h0, h1, h2, F, h3, h4, h5⟩ := C.ex
  obtain rfl : dvs = [] := by have := h5 (fun _ => none); cases this; rfl
  cases h4
  exact pt_imp (pt_cmpR (op_inO (hK ▸ h2) (by rw [hP, hW, hK]; exact F) (hr.mono hj) (hK ▸ h3)) ha hb hm) fun _ _ _ h => tInO h0 in_w (ttest h)
theorem se_ninO (C : MCallee S X.mg X.base j c "__contains__" φ []) (hr : Room i X.A) (ha : SE S z ex X a wa) (hb : SO S z ex X b wo) (hj : j ≤ i := by omega) (hm : behindInMarks .NotIn b = false := by rfl) (hP : X.prog = S.P := by rfl) (hW : X.w = S.w := by rfl) (hK : X.K = S.K := by rfl) : SE S z ex X (.Compare a [.NotIn] [b] pos) (PW.wNInO c wa φ wo) := by
  obtain ⟨Ca, f, fd, ps, dvs, ds, h0, h1, h2, F, h3, h4, h5⟩ := C.ex
  obtain rfl : dvs = [] := by have := h5 (fun _ => none); cases this; rfl
  cases h4
  exact pe_imp (pe_cmpR (op_ninO (hK ▸ h2) (by rw [hP, hW, hK]; exact F) (hr.mono hj) (hK ▸ h3)) ha hb hm) fun _ _ _ h => tInO h0 nin_w h
theorem st_ninO (C : MCallee S X.mg X.base j c "__contains__" φ []) (hr : Room i X.A) (ha : SE S z ex X a wa) (hb : SO S z ex X b wo) (hj : j ≤ i := by omega) (hm : behindInMarks .NotIn b = false := by rfl) (hP : X.prog = S.P := by rfl) (hW : X.w = S.w := by rfl) (hK : X.K = S.K := by rfl) : ST S z ex X (.Compare a [.NotIn] [b] pos) (PW.tB (PW.wNInO c wa φ wo)) := by
  obtain ⟨Ca, f, fd, ps, dvs, ds, h0, h1, h2, F, h3, h4, h5⟩ := C.ex
  obtain rfl : dvs = [] := by have := h5 (fun _ => none); cases this; rfl
  cases h4
  exact pt_imp (pt_cmpR (op_ninO (hK ▸ h2) (by rw [hP, hW, hK]; exact F) (hr.mono hj) (hK ▸ h3)) ha hb hm) fun _ _ _ h => tInO h0 nin_w (ttest h)
end
end PS
end

section
set_option Elab.async false
set_option linter.all false
set_option maxRecDepth 100000
set_option maxHeartbeats 4000000
/-! PS17: what the head tells. -/
namespace PS
open PySem PySem.Spec L2
open PyProof.Rows hiding St
theorem find_keys {P : Params} : ∀ {l : List DictEntry} {ks : List Str}, l.map He.keyOf = He.keysIn P ks → ∀ z, z ∉ ks → l.find? (·.key.isStr z) = none ∧ l.any (·.refKey) = false
  | [], _, _, z, _ => ⟨rfl, rfl⟩
  | e :: r, [], h, z, _ => by cases h
  | e :: r, k :: ks, h, z, hz => by
    have h1 : He.keyOf e :: r.map He.keyOf = some (k, PyData.keyHash P k) :: He.keysIn P ks := h
    injection h1 with h2 h3
    have hz2 : z ≠ k ∧ z ∉ ks := by simpa using hz
    obtain ⟨q1, q2⟩ := find_keys h3 z hz2.2
    unfold He.keyOf at h2
    split at h2
    · rename_i x t q
      obtain ⟨h5, h6⟩ := Prod.mk.inj (Option.some.inj h2)
      have e1 : e.key.isStr z = false := by
        rw [q]
        show (x == z) = false
        rw [h5]
        exact beq_eq_false_iff_ne.mpr fun w => hz2.1 w.symm
      have e2 : e.refKey = false := by
        unfold DictEntry.refKey
        rw [q]
      refine ⟨?_, ?_⟩
      · rw [List.find?_cons, e1]; exact q1
      · rw [List.any_cons, e2]; exact q2
    · cases h2
theorem tabOk_of {S : Stat} {mg : Str → Option Value} {x : Str} {kvs : List (Str × Int)} (hk : He.dicW S.K (He.ga S.K x) = some (He.keysIn S.w.params (kvs.map (·.1)))) (hv : He.valsB S.K (He.ga S.K x) (kvs.map fun q => (q.1, .int q.2)) = true) (hg : mg x = some (.ref (He.ga S.K x))) :
    TabOk S mg x (kvs.map fun q => (cpl q.1, .int q.2)) := by
  obtain ⟨es, n, D⟩ := He.dicW_ok hk
  refine ⟨_, es, n, hg, D, fun z => ?_⟩
  have hes : es.toList.map He.keyOf = He.keysIn S.w.params (kvs.map (·.1)) := by
    unfold He.dicW at hk
    rw [D.at_] at hk
    have hk2 : (match decide ("dict" = "dict") && ((#[] : Array (Option Value)).isEmpty && !(He.ga S.K x == sysModules)) with
      | true => some (es.toList.map He.keyOf)
      | false => none) = some (He.keysIn S.w.params (kvs.map (·.1))) := hk
    rw [D.low] at hk2
    exact Option.some.inj hk2
  have look : ∀ (l : List (Str × Int)), (∀ i, (z, i) ∈ l → ∃ u, PySem.W.nsIn S.K (He.ga S.K x) z = some (some u) ∧ RelV (.int i) u) → (z ∉ l.map (·.1) → PySem.W.nsIn S.K (He.ga S.K x) z = some none) →
      match (l.map fun q => (cpl q.1, PW.D.int q.2)).lookup (cpl z) with
      | some dv => ∃ u v, PySem.W.nsIn S.K (He.ga S.K x) z = some (some u) ∧ RelV v u ∧ ∀ G, Rep S G v dv
      | none => PySem.W.nsIn S.K (He.ga S.K x) z = some none := by
    intro l
    induction l with
    | nil => intro _ h; exact h (by simp)
    | cons q l ih =>
      intro h1 h2
      rw [List.map_cons, List.lookup_cons]
      by_cases e : z = q.1
      · subst e
        rw [beq_self_eq_true]
        obtain ⟨u, e1, e2⟩ := h1 q.2 (List.mem_cons_self ..)
        exact ⟨u, _, e1, e2, fun G => .int _⟩
      · have e1 : (cpl z == cpl q.1) = false := beq_eq_false_iff_ne.mpr fun w => e (cpl_inj w)
        rw [e1]
        exact ih (fun i hi => h1 i (List.mem_cons_of_mem _ hi)) fun hn => h2 (by simp only [List.map_cons, List.mem_cons, not_or]; exact ⟨e, hn⟩)
  refine look kvs (fun i hi => ?_) fun hn => ?_
  · obtain ⟨u, e1, e2⟩ := He.valsB_ok hv (q := (z, .int i)) (List.mem_map.mpr ⟨(z, i), hi, rfl⟩)
    exact ⟨u, e1, e2⟩
  · obtain ⟨q1, q2⟩ := find_keys hes z hn
    unfold PySem.W.nsIn
    rw [D.at_]
    show (match es.toList.find? (·.key.isStr z) with
      | some e => some (some e.val)
      | none => if es.toList.any (·.refKey) then none else some none) = some none
    rw [q1, q2]
    rfl
/-- a promise that raises nothing, for the law -/
theorem FnOk.cx0 {P : Program} {w : World} {K : PySem.W.Frag} {mg : Str → Option Value} {base : Heap} {k : Nat} {f : Addr} {fd : FuncData} {ps : List Str} {sp : Sp} (F : FnOk P w K mg base (L2.CX P w) k f fd ps sp) :
    FnOk P w K mg base CX0 k f fd ps (fun vs H Q _ => sp vs H Q fun _ _ _ => False) :=
  ⟨fun vs H Q E h => F.len vs H Q _ h, fun A outer s H args us vs Q E hr e0 hb hv h => codeAny_mono (F.run A outer s H args us vs Q _ hr e0 hb hv h) fun r s' hq => by
    cases r with
    | error e =>
      obtain ⟨_, _, _, _, _, _, _, _, _, _, _, _, z⟩ := hq
      exact z.elim
    | ok fl => cases fl <;> exact hq⟩
/-- a law's start: the script stands -/
theorem law_start {S : Stat} {H : Hp} {a : Addr} {ns : List Int} {φ : PW.FSpec} (hS : SqL S.K H a (ns.map V.int)) (hφ : ∀ ns q e, (∀ os, q (.sh (.bl true)) os) → φ [.sh (.scr ns)] q e) : spOf S φ [.ref a] H (fun v _ => v = .bl true) fun _ _ _ => False := by
  refine ⟨H, [.sh (.scr ns)], fun r _ => r = .sh (.bl true), fun _ _ => False, ⟨Same.refl H, Same.refl H, fun a o _ g _ => g, fun a o h _ _ => h, rfl, fun i sl e => ?_, fun i j b ne oi _ => ?_, fun i b q => ?_, fun i d e => ?_, fun b q => ?_⟩, hφ ns _ _ fun _ => rfl, fun v H' G' os r _ ro hr => ?_, fun _ _ _ _ _ _ _ _ h => h⟩
  · cases i with
    | zero => cases e; exact ⟨.ref a, rfl, .scr hS⟩
    | succ i => simp at e
  · rcases oi with ⟨d, e⟩ | ⟨d, e⟩ <;> (cases i <;> simp at e)
  · obtain ⟨⟨d, e⟩, _⟩ := q
    cases i <;> simp at e
  · cases i <;> simp at e
  · obtain ⟨i, d, e, _⟩ := q
    cases i <;> simp at e
  · subst hr; exact Rep.bl_of ro
end PS
end

section
set_option Elab.async false
set_option linter.all false
set_option maxRecDepth 100000
set_option maxHeartbeats 4000000
/-! PS18: dicts that are made and changed. -/
namespace PS
open PySem PySem.Spec L2
open PyProof.Rows hiding St
mutual
/-- the value v is the key k -/
inductive Nk (K : PySem.W.Frag) (H : Hp) : V → NestedKey → Prop
  | non : Nk K H .non .none
  | int (i : Int) : Nk K H (.int i) (.num i)
  | str (x : Str) : Nk K H (.str x) (.text x)
  | tup {a : Addr} {xs : List V} {ks : List NestedKey} : SqT K H a xs → NkL K H xs ks → Nk K H (.ref a) (.tup ks)
inductive NkL (K : PySem.W.Frag) (H : Hp) : List V → List NestedKey → Prop
  | nil : NkL K H [] []
  | cons {v : V} {k : NestedKey} {vs : List V} {ks : List NestedKey} : Nk K H v k → NkL K H vs ks → NkL K H (v :: vs) (k :: ks)
end
section
variable {S : Stat} {G H H' : Hp}
mutual
theorem Nk.mono {K : PySem.W.Frag} (e : Same H H') : ∀ {v : V} {k : NestedKey}, Nk K H v k → Nk K H' v k
  | _, _, .non => .non
  | _, _, .int i => .int i
  | _, _, .str x => .str x
  | _, _, .tup a b => .tup (Same.seqT e a) (NkL.mono e b)
theorem NkL.mono {K : PySem.W.Frag} (e : Same H H') : ∀ {v : List V} {k : List NestedKey}, NkL K H v k → NkL K H' v k
  | _, _, .nil => .nil
  | _, _, .cons a b => .cons (Nk.mono e a) (NkL.mono e b)
end
mutual
theorem nk_is {X : Cx} {pins : List (Addr × Obj)} {σ : St} {s : Shared} (I : Inv X pins σ H s) : ∀ {v : V} {k : NestedKey} {u : Value}, Nk X.K H v k → RelV v u → NestedIs s.heap k u
  | _, _, _, .non, r => by cases (show _ = Value.none from r); exact .none
  | _, _, _, .int i, r => by obtain ⟨t, rfl⟩ := (show ∃ t, _ = Value.int i t from r); exact .int i t
  | _, _, _, .str x, r => by obtain ⟨t, rfl⟩ := (show ∃ t, _ = Value.str x t from r); exact .text x t
  | _, _, _, @Nk.tup _ _ a xs ks h l, r => by
    cases (show _ = Value.ref a from r)
    obtain ⟨its, rv, ⟨o, e, c, n, d⟩, _⟩ := I.tuple h
    exact .tup e c d (by simpa using nkl_is I l rv)
theorem nkl_is {X : Cx} {pins : List (Addr × Obj)} {σ : St} {s : Shared} (I : Inv X pins σ H s) : ∀ {v : List V} {k : List NestedKey} {u : List Value}, NkL X.K H v k → Vals v u → NestedAll s.heap k u
  | _, _, _, .nil, .nil => .nil
  | _, _, _, .cons a b, .cons r t => .cons (nk_is I a r) (nkl_is I b t)
end
mutual
theorem rep_nk : ∀ {d : PW.D} {v : V} {n : Nat}, PW.keyB d n = true → Rep S G v d → ∃ k, keyN d = some k ∧ k.depth ≤ n ∧ Nk S.K G v k
  | .non, _, n, _, .non => ⟨.none, rfl, Nat.zero_le _, .non⟩
  | .int i, _, n, _, .int _ => ⟨.num i, rfl, Nat.zero_le _, .int i⟩
  | .str _, _, n, _, .str x => ⟨.text x, by rw [keyN, mk_cpl], Nat.zero_le _, .str x⟩
  | .tup ds, _, n, h, .tup a r => by
    cases n with
    | zero => simp [PW.keyB] at h
    | succ n =>
      simp only [PW.keyB] at h
      obtain ⟨ks, e, l, q⟩ := rep_nks h r
      exact ⟨.tup ks, by simp [keyN, e], by simp only [NestedKey.depth]; omega, .tup a q⟩
  | .bl _, _, _, h, _ => by simp [PW.keyB] at h
  | .lst _, _, _, h, _ => by simp [PW.keyB] at h
  | .dic _, _, _, h, _ => by simp [PW.keyB] at h
  | .dit _, _, _, h, _ => by simp [PW.keyB] at h
  | .obj _ _, _, _, h, _ => by simp [PW.keyB] at h
  | .scr _, _, _, h, _ => by simp [PW.keyB] at h
theorem rep_nks : ∀ {d : List PW.D} {v : List V} {n : Nat}, PW.keyBL d n = true → RepL S G v d → ∃ k, keysN d = some k ∧ NestedKey.depthAll k ≤ n ∧ NkL S.K G v k
  | [], _, n, _, .nil => ⟨[], rfl, Nat.zero_le _, .nil⟩
  | d :: ds, _, n, h, .cons a r => by
    simp only [PW.keyBL, Bool.and_eq_true] at h
    obtain ⟨k, e, l, q⟩ := rep_nk h.1 a
    obtain ⟨ks, e2, l2, q2⟩ := rep_nks h.2 r
    exact ⟨k :: ks, by simp [keysN, e, e2], by simp only [NestedKey.depthAll]; omega, .cons q q2⟩
end
mutual
/-- == of keys -/
theorem eqv_key : ∀ {d e : PW.D} {n m : Nat} {k j : NestedKey}, PW.keyB d n = true → PW.keyB e m = true → keyN d = some k → keyN e = some j → PW.eqv d e = decide (k = j)
  | .non, e, n, m, k, j, h1, h2, e1, e2 => by
    cases e1
    cases e <;> first | (simp [PW.keyB] at h2; done) | skip
    all_goals simp [keyN] at e2
    · subst e2; rfl
    · subst e2; rfl
    · subst e2; rfl
    · obtain ⟨ks, _, rfl⟩ := e2; rfl
  | .int i, e, n, m, k, j, h1, h2, e1, e2 => by
    cases e1
    cases e <;> first | (simp [PW.keyB] at h2; done) | skip
    all_goals simp [keyN] at e2
    · subst e2; rfl
    · subst e2; simp [PW.eqv, NestedKey.decide_eq, NestedKey.beq, Bool.beq_eq_decide_eq]
    · subst e2; rfl
    · obtain ⟨ks, _, rfl⟩ := e2; rfl
  | .str s, e, n, m, k, j, h1, h2, e1, e2 => by
    cases e1
    cases e <;> first | (simp [PW.keyB] at h2; done) | skip
    all_goals simp [keyN] at e2
    · subst e2; rfl
    · subst e2; rfl
    · subst e2
      rename_i t
      simp only [PW.eqv, NestedKey.decide_eq, NestedKey.beq]
      by_cases q : s = t
      · subst q; simp
      · rw [beq_eq_false_iff_ne.mpr q, decide_eq_false]
        intro w; apply q; have := congrArg cpl w; rwa [cpl_mk, cpl_mk] at this
    · obtain ⟨ks, _, rfl⟩ := e2; rfl
  | .tup ds, e, n, m, k, j, h1, h2, e1, e2 => by
    cases n with
    | zero => simp [PW.keyB] at h1
    | succ n =>
      simp only [PW.keyB] at h1
      simp only [keyN, Option.map_eq_some_iff] at e1
      obtain ⟨ks, e1, rfl⟩ := e1
      cases e <;> first | (simp [PW.keyB] at h2; done) | skip
      · simp [keyN] at e2; subst e2; rfl
      · simp [keyN] at e2; subst e2; rfl
      · simp [keyN] at e2; subst e2; rfl
      · cases m with
        | zero => simp [PW.keyB] at h2
        | succ m =>
          simp only [PW.keyB] at h2
          simp only [keyN, Option.map_eq_some_iff] at e2
          obtain ⟨js, e2, rfl⟩ := e2
          simp only [PW.eqv]
          rw [eqv_keys h1 h2 e1 e2]
          simp
  | .bl _, _, _, _, _, _, h, _, _, _ => by simp [PW.keyB] at h
  | .lst _, _, _, _, _, _, h, _, _, _ => by simp [PW.keyB] at h
  | .dic _, _, _, _, _, _, h, _, _, _ => by simp [PW.keyB] at h
  | .dit _, _, _, _, _, _, h, _, _, _ => by simp [PW.keyB] at h
  | .obj _ _, _, _, _, _, _, h, _, _, _ => by simp [PW.keyB] at h
  | .scr _, _, _, _, _, _, h, _, _, _ => by simp [PW.keyB] at h
theorem eqv_keys : ∀ {d e : List PW.D} {n m : Nat} {k j : List NestedKey}, PW.keyBL d n = true → PW.keyBL e m = true → keysN d = some k → keysN e = some j → PW.eqvL d e = decide (k = j)
  | [], [], _, _, _, _, _, _, e1, e2 => by cases e1; cases e2; rfl
  | [], d :: ds, _, _, _, _, _, _, e1, e2 => by
    cases e1
    simp only [keysN] at e2
    split at e2
    · cases e2; rfl
    · cases e2
  | d :: ds, [], _, _, _, _, _, _, e1, e2 => by
    cases e2
    simp only [keysN] at e1
    split at e1
    · cases e1; rfl
    · cases e1
  | d :: ds, e :: es, n, m, k, j, h1, h2, e1, e2 => by
    simp only [PW.keyBL, Bool.and_eq_true] at h1 h2
    simp only [keysN] at e1 e2
    split at e1
    · rename_i k1 k2 q1 q2
      cases e1
      split at e2
      · rename_i j1 j2 q3 q4
        cases e2
        simp only [PW.eqvL]
        rw [eqv_key h1.1 h2.1 q1 q3, eqv_keys h1.2 h2.2 q2 q4]
        simp [Bool.decide_and]
      · cases e2
    · cases e1
end
end
end PS
end

section
set_option Elab.async false
set_option linter.all false
set_option maxRecDepth 100000
set_option maxHeartbeats 4000000
/-! PS19: dicts: what they hold, look-ups, stores. -/
namespace PS
open PySem PySem.Spec L2
open PyProof.Rows hiding St
mutual
theorem keyB_of : ∀ {d : PW.D} {k : NestedKey} {n : Nat}, keyN d = some k → k.depth ≤ n → PW.keyB d n = true
  | .non, _, _, _, _ => by rw [PW.keyB]
  | .int _, _, _, _, _ => by rw [PW.keyB]
  | .str _, _, _, _, _ => by rw [PW.keyB]
  | .tup ds, k, n, e, h => by
    simp only [keyN, Option.map_eq_some_iff] at e
    obtain ⟨ks, e, rfl⟩ := e
    simp only [NestedKey.depth] at h
    cases n with
    | zero => omega
    | succ n => rw [PW.keyB]; exact keyBL_of e (by omega)
  | .bl _, _, _, e, _ => by cases e
  | .lst _, _, _, e, _ => by cases e
  | .dic _, _, _, e, _ => by cases e
  | .dit _, _, _, e, _ => by cases e
  | .obj _ _, _, _, e, _ => by cases e
  | .scr _, _, _, e, _ => by cases e
theorem keyBL_of : ∀ {d : List PW.D} {k : List NestedKey} {n : Nat}, keysN d = some k → NestedKey.depthAll k ≤ n → PW.keyBL d n = true
  | [], _, _, _, _ => by rw [PW.keyBL]
  | d :: ds, k, n, e, h => by
    simp only [keysN] at e
    split at e
    · rename_i k1 k2 q1 q2
      cases e
      simp only [NestedKey.depthAll] at h
      rw [PW.keyBL, keyB_of q1 (by omega), keyBL_of q2 (by omega)]
      rfl
    · cases e
end
def valN (xs : List (NestedKey × Addr × V)) (k : NestedKey) : Option V := (xs.find? fun x => decide (x.1 = k)).map (·.2.2)
def putN (xs : List (NestedKey × Addr × V)) (k : NestedKey) (b : Addr) (v : V) : List (NestedKey × Addr × V) :=
  if (valN xs k).isSome = true then xs.map (fun x => if x.1 = k then (x.1, x.2.1, v) else x) else xs ++ [(k, b, v)]
abbrev PN (xs : List (NestedKey × Addr × V)) (ys : List (NestedKey × Addr × Value)) : Prop := Paired (fun x y => x.1 = y.1 ∧ x.2.1 = y.2.1 ∧ RelV x.2.2 y.2.2) xs ys
theorem pn_val {xs : List (NestedKey × Addr × V)} {ys : List (NestedKey × Addr × Value)} (r : PN xs ys) (k : NestedKey) : RelO (valN xs k) ((atKey ys k).map (·.2)) := by
  unfold PN at r
  induction r with
  | nil => exact True.intro
  | @cons p q ps qs h t ih =>
    obtain ⟨h1, h2, h3⟩ := h
    by_cases e : p.1 = k
    · have e' : q.1 = k := h1.symm.trans e
      simp only [valN, atKey, List.find?_cons, e, e', decide_true, Option.map_some]
      exact h3
    · have e' : ¬ q.1 = k := fun z => e (h1.trans z)
      simp only [valN, atKey, List.find?_cons, e, e', decide_false]
      exact ih
theorem pn_len {xs : List (NestedKey × Addr × V)} {ys : List (NestedKey × Addr × Value)} (r : PN xs ys) : xs.length = ys.length := Paired.length r
theorem pn_map {xs : List (NestedKey × Addr × V)} {ys : List (NestedKey × Addr × Value)} (r : PN xs ys) (k : NestedKey) {v : V} {u : Value} (rv : RelV v u) : PN (xs.map fun x => if x.1 = k then (x.1, x.2.1, v) else x) (ys.map (putAt k u)) := by
  unfold PN at r ⊢
  induction r with
  | nil => exact .nil
  | @cons p q ps qs h t ih =>
    obtain ⟨h1, h2, h3⟩ := h
    simp only [List.map_cons]
    refine .cons ?_ ih
    unfold putAt
    by_cases e : p.1 = k
    · rw [if_pos e, if_pos (h1.symm.trans e)]; exact ⟨h1, h2, rv⟩
    · rw [if_neg e, if_neg (fun z => e (h1.trans z))]; exact ⟨h1, h2, h3⟩
theorem pn_put {xs : List (NestedKey × Addr × V)} {ys : List (NestedKey × Addr × Value)} (r : PN xs ys) (k : NestedKey) (b : Addr) {v : V} {u : Value} (rv : RelV v u) : PN (putN xs k b v) (storedH ys k b u) := by
  have q : (valN xs k).isSome = (atKey ys k).isSome := by
    have := (pn_val r k).isSome_eq
    rwa [Option.isSome_map] at this
  unfold putN storedH
  rw [q]
  by_cases w : (atKey ys k).isSome = true
  · rw [if_pos w, if_pos w]; exact pn_map r k rv
  · rw [if_neg w, if_neg w]; exact Paired.snoc r ⟨rfl, rfl, rv⟩
theorem putN_len (xs : List (NestedKey × Addr × V)) (k : NestedKey) (b : Addr) (v : V) : (putN xs k b v).length ≤ xs.length + 1 := by
  unfold putN
  split <;> simp
/-- the keys stand -/
def KeysIn (K : PySem.W.Frag) (H : Hp) (xs : List (NestedKey × Addr × V)) : Prop := ∀ x ∈ xs, Nk K H (.ref x.2.1) x.1 ∧ x.1.depth ≤ 8
section
variable {S : Stat} {G H : Hp}
theorem repN_keys (sm : Same G H) : ∀ {xs : List (NestedKey × Addr × V)} {kvs : List (PW.D × PW.D)}, RepN S G xs kvs → KeysIn S.K H xs
  | _, _, .nil => fun x h => nomatch h
  | _, _, .cons e l rk rv t => fun x h => by
    rcases List.mem_cons.mp h with q | q
    · subst q
      obtain ⟨j, e2, l2, n⟩ := rep_nk (keyB_of e l) rk
      rw [e] at e2; cases e2
      exact ⟨n.mono sm, l⟩
    · exact repN_keys sm t x q
theorem repN_get {y : PW.D} {j : NestedKey} (hy : PW.keyB y 8 = true) (ey : keyN y = some j) : ∀ {xs : List (NestedKey × Addr × V)} {kvs : List (PW.D × PW.D)}, RepN S G xs kvs →
    (∀ d, PW.dGet kvs y = some d → ∃ v, valN xs j = some v ∧ Rep S G v d) ∧ (PW.dGet kvs y).isSome = (valN xs j).isSome
  | _, _, .nil => ⟨fun d h => (nomatch (show (none : Option PW.D) = some d from h)), rfl⟩
  | _, _, @RepN.cons _ _ k a v kd d r t e l rk rv rest => by
    have q : PW.eqv kd y = decide (k = j) := eqv_key (keyB_of e l) hy e ey
    by_cases w : k = j
    · rw [decide_eq_true w] at q
      simp only [PW.dGet, valN, List.find?_cons, q, w, decide_true, Option.map_some, Option.isSome_some, and_true]
      intro d' h; cases h; exact ⟨v, rfl, rv⟩
    · rw [decide_eq_false w] at q
      simp only [PW.dGet, valN, List.find?_cons, q, w, decide_false]
      exact repN_get hy ey rest
theorem repN_map {y : PW.D} {j : NestedKey} {dv : PW.D} {v : V} (hy : PW.keyB y 8 = true) (ey : keyN y = some j) (rv : Rep S G v dv) : ∀ {xs : List (NestedKey × Addr × V)} {kvs : List (PW.D × PW.D)}, RepN S G xs kvs →
    RepN S G (xs.map fun x => if x.1 = j then (x.1, x.2.1, v) else x) (kvs.map fun p => if PW.eqv p.1 y = true then (p.1, dv) else p)
  | _, _, .nil => .nil
  | _, _, @RepN.cons _ _ k a v kd d r t e l rk r2 rest => by
    have q : PW.eqv kd y = decide (k = j) := eqv_key (keyB_of e l) hy e ey
    simp only [List.map_cons]
    by_cases w : k = j
    · rw [decide_eq_true w] at q
      simp only [q, if_pos w, if_true]
      exact .cons e l rk rv (repN_map hy ey rv rest)
    · rw [decide_eq_false w] at q
      simp only [q, if_neg w, Bool.false_eq_true, if_false]
      exact .cons e l rk r2 (repN_map hy ey rv rest)
theorem repN_snoc {y : PW.D} {j : NestedKey} {dv : PW.D} {v : V} {b : Addr} (l : j.depth ≤ 8) (ey : keyN y = some j) (rk : Rep S G (.ref b) y) (rv : Rep S G v dv) : ∀ {xs : List (NestedKey × Addr × V)} {kvs : List (PW.D × PW.D)}, RepN S G xs kvs → RepN S G (xs ++ [(j, b, v)]) (kvs ++ [(y, dv)])
  | _, _, .nil => .cons ey l rk rv .nil
  | _, _, .cons e l2 a c t => .cons e l2 a c (repN_snoc l ey rk rv t)
theorem any_dGet (kvs : List (PW.D × PW.D)) (y : PW.D) : (kvs.any fun p => PW.eqv p.1 y) = (PW.dGet kvs y).isSome := by
  induction kvs with
  | nil => rfl
  | cons p t ih =>
    cases e : PW.eqv p.1 y
    · simpa [PW.dGet, List.find?_cons, e] using ih
    · simp [PW.dGet, List.find?_cons, e]
theorem repN_put {y : PW.D} {j : NestedKey} {dv : PW.D} {v : V} {b : Addr} (hy : PW.keyB y 8 = true) (l : j.depth ≤ 8) (ey : keyN y = some j) (rk : Rep S G (.ref b) y) (rv : Rep S G v dv) {xs : List (NestedKey × Addr × V)} {kvs : List (PW.D × PW.D)} (r : RepN S G xs kvs) :
    RepN S G (putN xs j b v) (PW.dPut kvs y dv) := by
  unfold putN PW.dPut
  rw [any_dGet, (repN_get hy ey r).2]
  split
  · exact repN_map hy ey rv r
  · exact repN_snoc l ey rk rv r
/-! ints and texts as keys -/
theorem key_inr_inj {x y : Str} : (PW.eqv (.str (cpl x)) (.str (cpl y))) = decide ((Sum.inr x : Key) = .inr y) := by
  simp only [PW.eqv]
  by_cases q : x = y
  · subst q; simp
  · rw [beq_eq_false_iff_ne.mpr fun w => q (cpl_inj w)]; simp [q]
def KeyIs (y : PW.D) (j : Key) : Prop := match j with
  | .inl i => y = .int i
  | .inr x => y = .str (cpl x)
theorem eqv_Key {d e : PW.D} {k j : Key} (h1 : KeyIs d k) (h2 : KeyIs e j) : PW.eqv d e = decide (k = j) := by
  cases k <;> cases j <;> (simp only [KeyIs] at h1 h2; subst h1; subst h2)
  · simp [PW.eqv, Bool.beq_eq_decide_eq]
  · simp [PW.eqv]
  · simp [PW.eqv]
  · exact key_inr_inj
theorem key_of_rep {y : PW.D} {v : V} (h : PW.isSk y = true) (r : Rep S G v y) : ∃ j : Key, KeyIs y j ∧ v = kV j := by
  cases r <;> first | (cases h; done) | skip
  · exact ⟨.inl _, rfl, rfl⟩
  · exact ⟨.inr _, rfl, rfl⟩
theorem repK_get {y : PW.D} {j : Key} (hy : KeyIs y j) : ∀ {xs : List (Key × V)} {kvs : List (PW.D × PW.D)}, RepK S G xs kvs →
    (∀ d, PW.dGet kvs y = some d → ∃ v, valV xs j = some v ∧ Rep S G v d) ∧ (PW.dGet kvs y).isSome = (valV xs j).isSome
  | _, _, .nil => ⟨fun d h => (nomatch (show (none : Option PW.D) = some d from h)), rfl⟩
  | _, _, @RepK.int _ _ i v d r t a rest => by
    have q : PW.eqv (.int i) y = decide ((Sum.inl i : Key) = j) := eqv_Key (k := .inl i) rfl hy
    by_cases w : (Sum.inl i : Key) = j
    · rw [decide_eq_true w] at q
      simp only [PW.dGet, valV, List.find?_cons, q, w, decide_true, Option.map_some, Option.isSome_some, and_true]
      intro d' h; cases h; exact ⟨v, rfl, a⟩
    · rw [decide_eq_false w] at q
      simp only [PW.dGet, valV, List.find?_cons, q, w, decide_false]
      exact repK_get hy rest
  | _, _, @RepK.str _ _ x v d r t a rest => by
    have q : PW.eqv (.str (cpl x)) y = decide ((Sum.inr x : Key) = j) := eqv_Key (k := .inr x) rfl hy
    by_cases w : (Sum.inr x : Key) = j
    · rw [decide_eq_true w] at q
      simp only [PW.dGet, valV, List.find?_cons, q, w, decide_true, Option.map_some, Option.isSome_some, and_true]
      intro d' h; cases h; exact ⟨v, rfl, a⟩
    · rw [decide_eq_false w] at q
      simp only [PW.dGet, valV, List.find?_cons, q, w, decide_false]
      exact repK_get hy rest
theorem repK_map {y : PW.D} {j : Key} {dv : PW.D} {v : V} (hy : KeyIs y j) (rv : Rep S G v dv) : ∀ {xs : List (Key × V)} {kvs : List (PW.D × PW.D)}, RepK S G xs kvs →
    RepK S G (xs.map fun kv => if kv.1 = j then (kv.1, v) else kv) (kvs.map fun p => if PW.eqv p.1 y = true then (p.1, dv) else p)
  | _, _, .nil => .nil
  | _, _, @RepK.int _ _ i v d r t a rest => by
    have q : PW.eqv (.int i) y = decide ((Sum.inl i : Key) = j) := eqv_Key (k := .inl i) rfl hy
    simp only [List.map_cons]
    by_cases w : (Sum.inl i : Key) = j
    · rw [decide_eq_true w] at q
      simp only [q, if_pos w, if_true]
      exact .int rv (repK_map hy rv rest)
    · rw [decide_eq_false w] at q
      simp only [q, if_neg w, Bool.false_eq_true, if_false]
      exact .int a (repK_map hy rv rest)
  | _, _, @RepK.str _ _ x v d r t a rest => by
    have q : PW.eqv (.str (cpl x)) y = decide ((Sum.inr x : Key) = j) := eqv_Key (k := .inr x) rfl hy
    simp only [List.map_cons]
    by_cases w : (Sum.inr x : Key) = j
    · rw [decide_eq_true w] at q
      simp only [q, if_pos w, if_true]
      exact .str rv (repK_map hy rv rest)
    · rw [decide_eq_false w] at q
      simp only [q, if_neg w, Bool.false_eq_true, if_false]
      exact .str a (repK_map hy rv rest)
theorem repK_snoc {y : PW.D} {j : Key} {dv : PW.D} {v : V} (hy : KeyIs y j) (rv : Rep S G v dv) : ∀ {xs : List (Key × V)} {kvs : List (PW.D × PW.D)}, RepK S G xs kvs → RepK S G (xs ++ [(j, v)]) (kvs ++ [(y, dv)])
  | _, _, .nil => by
    cases j with
    | inl i => cases (show y = .int i from hy); exact .int rv .nil
    | inr x => cases (show y = .str (cpl x) from hy); exact .str rv .nil
  | _, _, .int a t => .int a (repK_snoc hy rv t)
  | _, _, .str a t => .str a (repK_snoc hy rv t)
theorem repK_put {y : PW.D} {j : Key} {dv : PW.D} {v : V} (hy : KeyIs y j) (rv : Rep S G v dv) {xs : List (Key × V)} {kvs : List (PW.D × PW.D)} (r : RepK S G xs kvs) : RepK S G (putK xs j v) (PW.dPut kvs y dv) := by
  unfold putK PW.dPut
  rw [any_dGet, (repK_get hy r).2, valV_any]
  split
  · exact repK_map hy rv r
  · exact repK_snoc hy rv r
theorem repN_len {xs : List (NestedKey × Addr × V)} {kvs : List (PW.D × PW.D)} (h : RepN S G xs kvs) : xs.length = kvs.length := by
  induction kvs generalizing xs with
  | nil => cases h; rfl
  | cons a t ih => cases h with
    | cons _ _ _ _ h2 => simp [ih h2]
end
/-! ### in the heap -/
/-- what the dict at a holds at y; the heap behind a store -/
def DG (S : Stat) (H : Hp) (a : Addr) (y : V) (r : Option V) : Prop := DGet H a y r ∨ ∃ xs k b, H a = some (dN S a xs) ∧ KeysIn S.K H xs ∧ y = .ref b ∧ Nk S.K H y k ∧ k.depth ≤ 8 ∧ r = valN xs k
def DP (S : Stat) (H : Hp) (a : Addr) (y v : V) (H' : Hp) : Prop := DPut H a y v H' ∨ ∃ xs k b, H a = some (dN S a xs) ∧ KeysIn S.K H xs ∧ y = .ref b ∧ Nk S.K H y k ∧ k.depth ≤ 8 ∧ xs.length < sizeLine ∧ H' = upd H a (dN S a (putN xs k b v))
section
variable {S : Stat} {X : Cx} {pins : List (Addr × Obj)} {σ : St} {H : Hp} {s : Shared} {a : Addr} {y v : V} {u r : Value} {o : Option V} {A : Around} {E : Value → Shared → Prop}
theorem pn_mem {xs : List (NestedKey × Addr × V)} {ys : List (NestedKey × Addr × Value)} (r : PN xs ys) {y : NestedKey × Addr × Value} (h : y ∈ ys) : ∃ x ∈ xs, x.1 = y.1 ∧ x.2.1 = y.2.1 := by
  unfold PN at r
  induction r with
  | nil => cases h
  | @cons p q ps qs hq t ih =>
    rcases List.mem_cons.mp h with e | e
    · subst e; exact ⟨p, List.mem_cons_self .., hq.1, hq.2.1⟩
    · obtain ⟨x, h1, h2⟩ := ih e
      exact ⟨x, List.mem_cons_of_mem _ h1, h2⟩
theorem dn_of {xs : List (NestedKey × Addr × V)} (hP : X.prog = S.P) (hw : X.w = S.w) (hK : X.K = S.K) (I : Inv X pins σ H s) (e : H a = some (dN S a xs)) (ks : KeysIn S.K H xs) :
    xs.length ≤ sizeLine ∧ (a == sysModules) = false ∧ ∃ ys, PN xs ys ∧ s.heap.DictOfH (nestedKind X.prog X.w) a ys := by
  obtain ⟨⟨z, hd, ys, r, o, es, ep, h1, h2, h3, h4, h5⟩, _, _⟩ := I.hok a _ e
  refine ⟨z, hd, ys, r, o, es, ep, h1, h2, h3, by rw [hP, hw]; exact h4, fun y hy => ?_, h5⟩
  obtain ⟨x, hx, e1, e2⟩ := pn_mem r hy
  obtain ⟨n, l⟩ := ks x hx
  rw [← hK] at n
  rw [← e1, ← e2]
  exact ⟨nk_is I n rfl, l⟩
theorem dn_new {xs : List (NestedKey × Addr × V)} {ys : List (NestedKey × Addr × Value)} {h : Heap} {P : Program} {w : World} (hP : P = S.P) (hw : w = S.w) (z : xs.length ≤ sizeLine) (hd : (a == sysModules) = false) (r : PN xs ys) (dd : h.DictOfH (nestedKind P w) a ys) :
    ObjOk P w H h a (dN S a xs) := by
  obtain ⟨o, es, ep, h1, h2, h3, h4, _, h5⟩ := dd
  subst hP; subst hw
  refine ⟨⟨z, hd, ys, r, o, es, ep, h1, h2, h3, h4, h5⟩, ⟨o, h1⟩, fun h' h'' ⟨z, hd, ys, r, o, es, ep, h1, h2⟩ k => ⟨z, hd, ys, r, o, es, ep, k o h1, h2⟩⟩
theorem dg_getItem {Q : Value → Shared → Prop} (hP : X.prog = S.P) (hw : X.w = S.w) (hK : X.K = S.K) (hu : A.units + 16 < cLine) (I : Inv X pins σ H s) (g : DG S H a y (some v)) (ry : RelV y u) (h : ∀ w' s', Inv X pins σ H s' → RelV v w' → Q w' s') :
    wpAny (model X.prog X.w) A (getItem (.ref a) u) Q E s := by
  rcases g with g | ⟨xs, k, b, e, ks, ey, nk, l, hv⟩
  · exact d_getItem (by omega) I g ry h
  · subst ey
    obtain ⟨z, hd, ys, rel, dd⟩ := dn_of hP hw hK I e ks
    obtain ⟨w', h1, rw'⟩ := RelO.some_of (v := v) (o := (atKey ys k).map (·.2)) (by rw [hv]; exact pn_val rel k)
    obtain ⟨p, hp, hp2⟩ := Option.map_eq_some_iff.mp h1
    cases (show u = Value.ref b from ry)
    rw [← hK] at nk
    refine wpAny_getItem_heap (knd := nestedKind X.prog X.w) (show A.units + 1 + 8 < cLine by omega) ⟨nk_is I nk rfl, l⟩ dd hp ?_
    rw [hp2]
    exact h w' _ (I.tok _) rw'
theorem dg_in {Q : Value → Shared → Prop} (hP : X.prog = S.P) (hw : X.w = S.w) (hK : X.K = S.K) (hu : A.units + 16 < cLine) (I : Inv X pins σ H s) (g : DG S H a y o) (ry : RelV y u) (h : ∀ s', Inv X pins σ H s' → Q (.bool o.isSome) s') :
    wpAny (model X.prog X.w) A (compareOp .In u (.ref a)) Q E s := by
  rcases g with g | ⟨xs, k, b, e, ks, ey, nk, l, hv⟩
  · exact d_in (by omega) I g ry h
  · subst ey
    obtain ⟨z, hd, ys, rel, dd⟩ := dn_of hP hw hK I e ks
    cases (show u = Value.ref b from ry)
    rw [← hK] at nk
    refine wpAny_in_heap (knd := nestedKind X.prog X.w) (show A.units + 1 + 8 < cLine by omega) ⟨nk_is I nk rfl, l⟩ hd dd ?_
    have q := (pn_val rel k).isSome_eq
    rw [Option.isSome_map] at q
    rw [← q, ← hv]
    exact h _ (I.tok _)
theorem dg_notIn {Q : Value → Shared → Prop} (hP : X.prog = S.P) (hw : X.w = S.w) (hK : X.K = S.K) (hu : A.units + 16 < cLine) (I : Inv X pins σ H s) (g : DG S H a y o) (ry : RelV y u) (h : ∀ s', Inv X pins σ H s' → Q (.bool (!o.isSome)) s') :
    wpAny (model X.prog X.w) A (compareOp .NotIn u (.ref a)) Q E s := by
  rcases g with g | ⟨xs, k, b, e, ks, ey, nk, l, hv⟩
  · exact d_notIn (by omega) I g ry h
  · subst ey
    obtain ⟨z, hd, ys, rel, dd⟩ := dn_of hP hw hK I e ks
    cases (show u = Value.ref b from ry)
    rw [← hK] at nk
    refine wpAny_notIn_heap (knd := nestedKind X.prog X.w) (show A.units + 1 + 8 < cLine by omega) ⟨nk_is I nk rfl, l⟩ hd dd ?_
    have q := (pn_val rel k).isSome_eq
    rw [Option.isSome_map] at q
    rw [← q, ← hv]
    exact h _ (I.tok _)
theorem dg_setItem {H' : Hp} {Q : Unit → Shared → Prop} (hP : X.prog = S.P) (hw : X.w = S.w) (hK : X.K = S.K) (hu : A.units + 16 < cLine) (I : Inv X pins σ H s) (g : DP S H a y v H') (ry : RelV y u) (rv : RelV v r) (h : ∀ s', Inv X pins σ H' s' → Q () s') :
    wpAny (model X.prog X.w) A (setItem (.ref a) u r) Q E s := by
  rcases g with g | ⟨xs, k, b, e, ks, ey, nk, l, hl, eH⟩
  · exact d_setItem (by omega) I g ry rv h
  · subst ey; subst eH
    obtain ⟨z, hd, ys, rel, dd⟩ := dn_of hP hw hK I e ks
    cases (show u = Value.ref b from ry)
    rw [← hK] at nk
    have hz : ys.length ≤ sizeLine := by rw [← pn_len rel]; exact z
    refine wpAny_setItem_heap (hsz := hz) (knd := nestedKind X.prog X.w) (show A.units + 1 + 8 < cLine by omega) ⟨nk_is I nk rfl, l⟩ dd fun h' dd' hs => h _ ?_
    have he : ∃ q, h'.get? a = some q := let ⟨q, _, _, hq, _⟩ := dd'; ⟨q, hq⟩
    exact d_write I (by rw [e]; exact True.intro) hs he (dn_new hP hw (by have := putN_len xs k b v; omega) hd (pn_put rel k b rv) dd')
theorem dg_typeIs (hP : X.prog = S.P) (hw : X.w = S.w) (hK : X.K = S.K) (I : Inv X pins σ H s) (g : DG S H a y o) : s.TypeIs (.ref a) "dict" := by
  rcases g with g | ⟨xs, k, b, e, ks, _⟩
  · exact dict_typeIs I g
  · obtain ⟨_, _, ys, _, dd⟩ := dn_of hP hw hK I e ks
    exact dd.typeIs
end
/-- len(d) -/
def rDlen (S : Stat) : List V → Hp → VK → Prop := fun vs H Q => (∃ a kvs, vs = [.ref a] ∧ H a = some (.dK kvs) ∧ Q (.int kvs.length) H) ∨ ∃ a xs, vs = [.ref a] ∧ H a = some (dN S a xs) ∧ KeysIn S.K H xs ∧ Q (.int xs.length) H
theorem cr_dlen {S : Stat} {X : Cx} (hP : X.prog = S.P) (hw : X.w = S.w) (hK : X.K = S.K) : CallR X (.builtin "len") (rDlen S) := fun pins s σ H xs us Q I rv h => by
  rcases h with ⟨a, kvs, rfl, e, q⟩ | ⟨a, ks, rfl, e, kin, q⟩
  · cases rv with
    | cons r t =>
      cases t
      cases (show _ = Value.ref a from r)
      exact d_len I (.of e) fun t s' I' => ⟨.int kvs.length, H, I', ⟨t, rfl⟩, q⟩
  · cases rv with
    | cons r t =>
      cases t
      cases (show _ = Value.ref a from r)
      obtain ⟨z, hd, ys, rel, dd⟩ := dn_of hP hw hK I e kin
      have hl : ((ys.map fun y => (y.1, y.2.2)).length : Int) < 2 ^ 63 := by
        rw [List.length_map, ← pn_len rel]; rw [sizeLine_eq] at z; omega
      refine PyProof.Rows.call_len_slot (n := (ys.map fun y => (y.1, y.2.2)).length) dd.typeIs PySem.F.slot_dict_len (fun Q' hq => PySem.len_keyed (knd := nestedKind X.prog X.w) (kvs := ys.map fun y => (y.1, y.2.2)) hd ⟨ys, dd, rfl⟩ hq) (by omega) (by omega) ?_
      refine ⟨.int ks.length, H, I.tok _, ⟨s.toks + 1, ?_⟩, q⟩
      rw [List.length_map, pn_len rel]
end PS
end

section
set_option Elab.async false
set_option linter.all false
set_option maxRecDepth 100000
set_option maxHeartbeats 4000000
/-! PS20: the rules of dicts. -/
namespace PS
open PySem PySem.Spec L2
open PyProof.Rows hiding St
section
variable {S : Stat} {X : Cx} {z : Z} {ex : PW.XC} {vs : List V} {a b c e : Expr} {wa wb wc : PW.WE} {ra rb : PW.WR} {pos p : Pos} {k : Nat}
theorem Room.u16 {k : Nat} {A : Around} (r : Room k A) : A.units + 16 < cLine := by have := r.units; omega
/-- a dict that is looked at -/
theorem look_dict {G H : Hp} {x y : V} {d e : PW.D} {q : List (PW.D × PW.D) → Prop} (sm : Same G H) (lx : Look S G H x d) (ly : Rep S G y e) (h : PW.dKv d e q) : ∃ a kvs, x = .ref a ∧ q kvs ∧
    ∃ o, DG S H a y o ∧ (PW.dGet kvs e).isSome = o.isSome ∧ ∀ d', PW.dGet kvs e = some d' → ∃ v, o = some v ∧ Rep S G v d' := by
  have key : ∀ a o, H a = some o → Own S G a o d → ∃ kvs, q kvs ∧ ∃ r, DG S H a y r ∧ (PW.dGet kvs e).isSome = r.isSome ∧ ∀ d', PW.dGet kvs e = some d' → ∃ v, r = some v ∧ Rep S G v d' := by
    intro a o ho r
    cases r with
    | lst r => exact h.elim
    | obj c r => exact h.elim
    | dK r =>
      rename_i xs kvs
      obtain ⟨hk, h⟩ := (show PW.isSk e = true ∧ q kvs from h)
      obtain ⟨j, hj, rfl⟩ := key_of_rep hk ly
      obtain ⟨g1, g2⟩ := repK_get hj r
      exact ⟨kvs, h, valV xs j, .inl (DGet.k ho), g2, g1⟩
    | dN r =>
      rename_i xs kvs
      obtain ⟨hk, h'⟩ := (show PW.isTk e = true ∧ q kvs from h)
      cases e <;> first | (cases hk; done) | skip
      rename_i ds
      obtain ⟨b, ys, rfl, sq, rl⟩ := ly.tup_of
      have hk2 : PW.keyB (.tup ds) 8 = true := hk
      obtain ⟨j, ej, lj, nj⟩ := rep_nk hk2 (Rep.tup sq rl)
      obtain ⟨g1, g2⟩ := repN_get hk2 ej r
      exact ⟨kvs, h', valN xs j, .inr ⟨xs, j, b, ho, repN_keys sm r, rfl, nj.mono sm, lj, rfl⟩, g2, g1⟩
  rcases lx with r | ⟨a, o, rfl, ho, r⟩
  · cases r <;> first | exact h.elim | skip
    · rename_i a xs kvs g r
      obtain ⟨kvs', h1, h2⟩ := key a _ (sm _ _ g) (.dK r)
      exact ⟨a, kvs', rfl, h1, h2⟩
    · rename_i a xs kvs g r
      obtain ⟨kvs', h1, h2⟩ := key a _ (sm _ _ g) (.dN r)
      exact ⟨a, kvs', rfl, h1, h2⟩
  · obtain ⟨kvs', h1, h2⟩ := key a o ho r
    exact ⟨a, kvs', rfl, h1, h2⟩
def rDget (S : Stat) : R2 := fun x y H Q => ∃ a v, x = .ref a ∧ DG S H a y (some v) ∧ Q v H
def rDin (S : Stat) (neg : Bool) : R2 := fun y x H Q => ∃ a o, x = .ref a ∧ DG S H a y o ∧ Q (.bl (if neg then !o.isSome else o.isSome)) H
theorem pe_dgetS {o i : Expr} {td ty : TE} (hP : X.prog = S.P) (hw : X.w = S.w) (hK : X.K = S.K) (hu : X.A.units + 16 < cLine) (ho : PE X o td) (hi : PE X i ty) (hs : NoSl i) : PE X (.Subscript o i pos) (tOp (rDget S) td ty) := by
  refine ⟨fun pins s σ H Q I h => ?_⟩
  refine subD_of PySem.F.slot_dict_getitem.lookup hs (thn (ho.run pins s σ H _ I h) fun u s1 ⟨x, H1, I1, rx, q1⟩ => thn (hi.run pins s1 σ H1 _ I1 q1) fun iv s2 ⟨y, H2, I2, ry, a, v, ex, g, q2⟩ => ?_)
  subst ex
  obtain rfl : u = Value.ref a := rx
  exact ⟨dg_typeIs hP hw hK I2 g, dg_getItem hP hw hK hu I2 g ry fun w' s3 I3 rw' => ⟨v, H2, I3, rw', q2⟩⟩
theorem or_din (hP : X.prog = S.P) (hw : X.w = S.w) (hK : X.K = S.K) (hu : X.A.units + 16 < cLine) : OpR X (compareOp .In) (rDin S false) := fun pins s σ H y x v u Q I ry rx ⟨a, o, e, g, q⟩ => by
  subst e
  obtain rfl : u = Value.ref a := rx
  exact dg_in hP hw hK hu I g ry fun s' I' => ⟨.bl o.isSome, H, I', rfl, q⟩
theorem or_dnin (hP : X.prog = S.P) (hw : X.w = S.w) (hK : X.K = S.K) (hu : X.A.units + 16 < cLine) : OpR X (compareOp .NotIn) (rDin S true) := fun pins s σ H y x v u Q I ry rx ⟨a, o, e, g, q⟩ => by
  subst e
  obtain rfl : u = Value.ref a := rx
  exact dg_notIn hP hw hK hu I g ry fun s' I' => ⟨.bl (!o.isSome), H, I', rfl, q⟩
/-- a key is a value -/
theorem look_key {G H : Hp} {y : V} {e d : PW.D} {q : List (PW.D × PW.D) → Prop} (h : PW.dKv d e q) (l : Look S G H y e) : Rep S G y e := by
  rcases l with r | ⟨a, o, rfl, ho, r⟩
  · exact r
  · exfalso
    have no : PW.isSk e = false ∧ PW.isTk e = false := by cases r <;> exact ⟨rfl, rfl⟩
    unfold PW.dKv at h
    split at h
    · rw [no.2] at h; exact absurd h.1 Bool.false_ne_true
    · rw [no.1] at h; exact absurd h.1 Bool.false_ne_true
    · exact h
theorem l_dget : L2k S PW.fDget (rDget S) := fun z G ρ σ H x y d e q Q E hx hy hf k => by
  obtain ⟨a, kvs, rfl, hq, o, g, _, get⟩ := look_dict E.same hx (look_key hf hy) hf
  cases w : PW.dGet kvs e with
  | none => rw [w] at hq; exact hq.elim
  | some d' =>
    rw [w] at hq
    obtain ⟨v, rfl, rv⟩ := get _ w
    exact ⟨a, v, rfl, g, k v H G _ E (Same.refl G) rv hq⟩
theorem l_din : L2k S PW.fDin (rDin S false) := fun z G ρ σ H y x e d q Q E hy hx hf k => by
  obtain ⟨a, kvs, rfl, hq, o, g, hs, get⟩ := look_dict E.same hx (look_key hf hy) hf
  exact ⟨a, o, rfl, g, k _ H G _ E (Same.refl G) (.bl _) (hs ▸ hq)⟩
theorem l_dnin : L2k S PW.fDnin (rDin S true) := fun z G ρ σ H y x e d q Q E hy hx hf k => by
  obtain ⟨a, kvs, rfl, hq, o, g, hs, get⟩ := look_dict E.same hx (look_key hf hy) hf
  exact ⟨a, o, rfl, g, k _ H G _ E (Same.refl G) (.bl _) (hs ▸ hq)⟩
theorem se_dget (hr : Room k X.A) (ha : RE S z ex X a ra) (hb : SE S z ex X b wb) (hP : X.prog = S.P := by rfl) (hw : X.w = S.w := by rfl) (hK : X.K = S.K := by rfl) (hs : NoSl b := by exact fun _ _ => rfl) : SE S z ex X (.Subscript a b pos) (PW.wLk2 PW.fDget ra wb) :=
  pe_imp (pe_dgetS hP hw hK (Room.u16 hr) ha hb hs) fun _ _ _ => tLk2 l_dget
theorem se_din (hr : Room k X.A) (ha : RE S z ex X a ra) (hb : RE S z ex X b rb) (hP : X.prog = S.P := by rfl) (hw : X.w = S.w := by rfl) (hK : X.K = S.K := by rfl) (hm : behindInMarks .In b = false := by rfl) : SE S z ex X (.Compare a [.In] [b] pos) (PW.wLkB PW.fDin ra rb) := se_cmp (or_din hP hw hK (Room.u16 hr)) l_din ha hb hm
theorem se_dnin (hr : Room k X.A) (ha : RE S z ex X a ra) (hb : RE S z ex X b rb) (hP : X.prog = S.P := by rfl) (hw : X.w = S.w := by rfl) (hK : X.K = S.K := by rfl) (hm : behindInMarks .NotIn b = false := by rfl) : SE S z ex X (.Compare a [.NotIn] [b] pos) (PW.wLkB PW.fDnin ra rb) := se_cmp (or_dnin hP hw hK (Room.u16 hr)) l_dnin ha hb hm
theorem st_din (hr : Room k X.A) (ha : RE S z ex X a ra) (hb : RE S z ex X b rb) (hP : X.prog = S.P := by rfl) (hw : X.w = S.w := by rfl) (hK : X.K = S.K := by rfl) (hm : behindInMarks .In b = false := by rfl) : ST S z ex X (.Compare a [.In] [b] pos) (PW.tB (PW.wLkB PW.fDin ra rb)) := st_cmp (or_din hP hw hK (Room.u16 hr)) l_din ha hb hm
theorem st_dnin (hr : Room k X.A) (ha : RE S z ex X a ra) (hb : RE S z ex X b rb) (hP : X.prog = S.P := by rfl) (hw : X.w = S.w := by rfl) (hK : X.K = S.K := by rfl) (hm : behindInMarks .NotIn b = false := by rfl) : ST S z ex X (.Compare a [.NotIn] [b] pos) (PW.tB (PW.wLkB PW.fDnin ra rb)) := st_cmp (or_dnin hP hw hK (Room.u16 hr)) l_dnin ha hb hm
/-! ### len -/
theorem l_dlen : L1 S PW.fDlen (fun v H Q => rDlen S [v] H Q) := fun z G ρ σ H x d q Q E hx hf k => by
  have key : ∀ a o, H a = some o → Own S G a o d → rDlen S [.ref a] H Q := by
    intro a o ho r
    cases r with
    | lst r => exact hf.elim
    | obj c r => exact hf.elim
    | dK r =>
      rename_i xs kvs
      refine .inl ⟨a, xs, rfl, ho, ?_⟩
      rw [repK_len r]
      exact k _ H G _ E (Same.refl G) (.int _) hf
    | dN r =>
      rename_i xs kvs
      refine .inr ⟨a, xs, rfl, ho, repN_keys E.same r, ?_⟩
      rw [repN_len r]
      exact k _ H G _ E (Same.refl G) (.int _) hf
  rcases hx with r | ⟨a, o, rfl, ho, r⟩
  · cases r <;> first | exact hf.elim | skip
    · rename_i a xs kvs g r; exact key a _ (E.same _ _ g) (.dK r)
    · rename_i a xs kvs g r; exact key a _ (E.same _ _ g) (.dN r)
  · exact key a o ho r
theorem se_dlen (hm : X.mg "len" = none) (ha : RE S z ex X a ra) (hg : Gl X "len" := by rfl) (hP : X.prog = S.P := by rfl) (hw : X.w = S.w := by rfl) (hK : X.K = S.K := by rfl) (he : starEach [a] X.env = (false, eval a X.env) :: starEach [] X.env := by rfl) : SE S z ex X (.Call (.Name "len" p) [a] [] pos) (PW.wLk PW.fDlen ra) :=
  se_b1 (cr_dlen hP hw hK) l_dlen PySem.boot_len hg hm ha (by decide) (by decide) he
/-! ### {} -/
theorem ne_dic : NE S z ex X (.Dict [] [] pos) PW.nDic := pe_imp pe_dnewK fun σ H Q ⟨G, ρ, q, E, w, k⟩ p np => by
  obtain ⟨E', N⟩ := E.newN np (Own.dK (a := p) RepK.nil)
  exact k _ _ _ _ _ E' (Same.refl G) N w
theorem pe_dnewN (hP : X.prog = S.P) (hw : X.w = S.w) : PE X (.Dict [] [] pos) (fun _ H Q => ∀ p, H p = none → Q (.ref p) (upd H p (dN S p []))) := ⟨fun pins s σ H Q I h =>
  wpAny_Dict_empty ⟨.ref s.heap.objs.size, _, I.laid (a := s.heap.objs.size) (o := dN S s.heap.objs.size []) (t' := s.toks) (fun _ _ q => Heap.get?_push_of_some _ q) (Nat.le_refl _)
    (dn_new hP hw (Nat.zero_le _) (beq_eq_false_iff_ne.mpr (Ne.symm (Nat.ne_of_lt I.big))) .nil (Heap.DictOfH.new (knd := nestedKind X.prog X.w) s.heap)), rfl, h _ (I.hok.fresh (Nat.le_refl _))⟩⟩
theorem ne_dit (hP : X.prog = S.P := by rfl) (hw : X.w = S.w := by rfl) : NE S z ex X (.Dict [] [] pos) PW.nDit := pe_imp (pe_dnewN hP hw) fun σ H Q ⟨G, ρ, q, E, w, k⟩ p np => by
  obtain ⟨E', N⟩ := E.newN np (Own.dN (a := p) RepN.nil)
  exact k _ _ _ _ _ E' (Same.refl G) N w
/-! ### d[k] = e -/
theorem set_dict (hP : X.prog = S.P) (hw : X.w = S.w) (hK : X.K = S.K) (hu : X.A.units + 16 < cLine) : PSet X (fun o i v H Q => ∃ a H', o = .ref a ∧ DP S H a i v H' ∧ Q H') := by
  intro pins s σ H o i v ov iv u Q I ro ri rv h
  obtain ⟨a, H', rfl, g, q⟩ := h
  obtain rfl : ov = Value.ref a := ro
  exact dg_setItem hP hw hK hu I g ri rv fun s' I' => ⟨H', I', q⟩
theorem ss_dput (i : Nat) {x : Str} {j : Expr} {wj : PW.WE} {p1 p2 : Pos} (hr : Room k X.A) (he : SE S z ex X e wa) (hj : SE S z ex X j wj) (hP : X.prog = S.P := by rfl) (hwd : X.w = S.w := by rfl) (hK : X.K = S.K := by rfl) (hN : X.N[i]? = some x := by rfl) (hv : Vis X.env.scope x := by first | exact Or.inl rfl | exact Or.inr (Or.inl rfl) | exact Or.inr (Or.inr rfl)) (hd : (x == ("__debug__" : Str)) = false := by decide)
    (hcd : (x == ("__classdict__" : Str)) = false := by decide) (hs : swapsWithSole [.Subscript (.Name x p1) j p2] e pos.line X.env = pure false := by rfl) (hw : swappedStores [.Subscript (.Name x p1) j p2] e X.env = pure none := by rfl) (h1 : (assignEach [.Subscript (.Name x p1) j p2] X.env).map (·.2) = [assign (.Subscript (.Name x p1) j p2) X.env] := by rfl)
    (ha : ∀ v, assign (.Subscript (.Name x p1) j p2) X.env v = (do
      let ov ← holding [v] (eval (.Name x p1) X.env)
      let iv ← holding [v, ov] (eval j X.env)
      standAt p2
      holding [v, ov, iv] (setItem ov iv v)
      release [v, ov, iv] []) := by intro _; rfl) :
    SS S z vs ex X (.Assign [.Subscript (.Name x p1) j p2] e pos) (PW.sDput i wj wa) :=
  ps_imp (ps_asg he (pg_sub (pv i hN hv hd hcd) hj (set_dict hP hwd hK (Room.u16 hr)) ha) hs hw h1) fun D σ H ⟨G, ρ, E, ok, h, en⟩ =>
  ⟨G, ρ, _, ok, h, fun y H1 G1 ρ1 dy ok1 sg1 ry ⟨h0, h1⟩ => by
    obtain ⟨v, d, e1, l, _⟩ := ok1.look h0
    refine ⟨v, e1, G1, ρ1, _, ok1, h1, fun jv H2 G2 ρ2 dj ok2 sg2 rj h2 => ?_⟩
    obtain ⟨a', o, d, e2, e3, r, q, hq, put⟩ := putO_ow ok2 h2
    rw [e1] at e2; cases e2
    cases r with
    | lst r => exact hq.elim
    | obj c r => exact hq.elim
    | dK r =>
      rename_i xs kvs
      obtain ⟨⟨hk, hl⟩, hq⟩ := (show (PW.isSk dj = true ∧ kvs.length < PW.line) ∧ q (.dic (PW.dPut kvs dj dy)) from hq)
      obtain ⟨jk, hj, rfl⟩ := key_of_rep hk rj
      refine ⟨a', _, rfl, .inl (DPut.k e3 (by rw [repK_len r, ← line_eq]; exact hl)), ?_⟩
      obtain ⟨ρ', ok', h'⟩ := put _ _ hq (.dK (repK_put hj (ry.mono sg2) r))
      exact en.nx G2 ρ' σ _ ok' (sg1.trans sg2) h'
    | dN r =>
      rename_i xs kvs
      obtain ⟨⟨hk, hl⟩, hq'⟩ := (show (PW.isTk dj = true ∧ kvs.length < PW.line) ∧ q (.dit (PW.dPut kvs dj dy)) from hq)
      clear hq
      cases dj <;> first | (cases hk; done) | skip
      rename_i ds
      obtain ⟨b, ys, rfl, sq, rl⟩ := rj.tup_of
      have rj' := Rep.tup sq rl
      have hk2 : PW.keyB (.tup ds) 8 = true := hk
      obtain ⟨jk, ej, lj, nj⟩ := rep_nk hk2 rj'
      refine ⟨a', _, rfl, .inr ⟨xs, jk, b, e3, repN_keys ok2.same r, rfl, nj.mono ok2.same, lj, by rw [repN_len r, ← line_eq]; exact hl, rfl⟩, ?_⟩
      obtain ⟨ρ', ok', h'⟩ := put _ _ hq' (.dN (repN_put hk2 lj ej rj' (ry.mono sg2) r))
      exact en.nx G2 ρ' σ _ ok' (sg1.trans sg2) h'⟩
end
end PS
end

section
set_option Elab.async false
set_option linter.all false
set_option maxRecDepth 100000
set_option maxHeartbeats 4000000
/-! PS21: list comprehensions of two generators. -/
namespace PS
open PySem PySem.Spec L2
open PyProof.Rows hiding St
section
variable {S : Stat} {z : Z} {G G' : Hp} {ρ ρ' : PW.Env} {σ σ' : St} {H H' : Hp} {D : Addr} {o : HO}
def del (H : Hp) (D : Addr) : Hp := fun a => if a = D then none else H a
theorem del_self : del H D D = none := if_pos rfl
theorem del_ne {a : Addr} (h : a ≠ D) : del H D a = H a := if_neg h
theorem del_upd : del (upd H D o) D = del H D := by
  funext a; unfold del; split
  · rfl
  · rename_i h; exact upd_ne h
theorem EnvOk.undel (E : EnvOk S z G ρ σ (del H D)) (h : H D = some o) : EnvOk S z G ρ σ H := by
  have e := E.laidH (p := D) del_self o
  have q : upd (del H D) D o = H := by
    funext a
    by_cases w : a = D
    · subst w; rw [upd_same, h]
    · rw [upd_ne w, del_ne w]
  rwa [q] at e
/-- the object at D is off the shared heap, off the slots -/
structure Off (z : Z) (G : Hp) (ρ : PW.Env) (σ : St) (D : Addr) : Prop where
  g : G D = none
  z0 : z.H0 D = none
  nr : ¬ z.rd D
  no : ∀ j, owned ρ j → σ[j]? ≠ some (some (.ref D))
theorem EnvOk.del (E : EnvOk S z G ρ σ H) (f : Off z G ρ σ D) : EnvOk S z G ρ σ (del H D) where
  same := fun a u e => by rw [del_ne (ne_of_none e f.g)]; exact E.same _ _ e
  grow := E.grow
  old := E.old
  keep := fun a u e b l => by
    have ne : a ≠ D := fun w => by rw [w, f.z0] at e; cases e
    rw [del_ne ne]; exact E.keep a u e b l
  len := E.len
  slot := fun i sl e => by
    have h := E.slot i sl e
    cases sl with
    | un => trivial
    | sh d => exact h
    | ow d =>
      obtain ⟨a, u, e1, e2, r⟩ := h
      have ne : a ≠ D := fun w => f.no i (.inl ⟨d, e⟩) (w ▸ e1)
      exact ⟨a, u, e1, by rw [del_ne ne]; exact e2, r⟩
    | bo d =>
      obtain ⟨a, u, e1, e2, r⟩ := h
      have ne : a ≠ D := fun w => f.no i (.inr ⟨d, e⟩) (w ▸ e1)
      exact ⟨a, u, e1, by rw [del_ne ne]; exact e2, r⟩
    | rd d => trivial
  apart := E.apart
  held := E.held
  rds := fun i d e => by
    obtain ⟨v, e1, r | ⟨a, u, ev, h1, h2, h3⟩⟩ := E.rds i d e
    · exact ⟨v, e1, .inl r⟩
    · have ne : a ≠ D := fun w => f.nr (w ▸ h3)
      exact ⟨v, e1, .inr ⟨a, u, ev, by rw [del_ne ne]; exact h1, h2, h3⟩⟩
  rdo := fun a h => by
    obtain ⟨⟨u, e⟩, q⟩ := E.rdo a h
    have ne : a ≠ D := fun w => f.nr (w ▸ h)
    exact ⟨⟨u, by rw [del_ne ne]; exact e⟩, q⟩
theorem Off.nB (f : Off z G ρ σ D) (E : EnvOk S z G ρ σ H) : ¬ z.B D := by
  rintro ⟨j, hj⟩
  obtain ⟨e1, d, e2⟩ := E.held j D hj
  exact f.no j (.inr ⟨d, e2⟩) e1
/-- behind a piece that ran with D locked -/
theorem kept_off (E : EnvOk S z G ρ σ H) (f : Off z G ρ σ D) (hD : H D = some o) (E' : EnvOk S (rb z G ρ σ H) G' ρ' σ' H') : EnvOk S z G' ρ' σ' (PS.del H' D) ∧ H' D = some o ∧ Off z G' ρ' σ' D := by
  have nB : ¬ (rb z G ρ σ H).B D := f.nB E
  have nL : ¬ (rb z G ρ σ H).L D := by
    rintro ⟨j, d, e1, e2⟩
    exact f.no j (.inl ⟨d, e1⟩) e2
  have f' : Off z G' ρ' σ' D := ⟨E'.old D _ hD f.g nL, f.z0, f.nr, fun j oj e4 => by
    rcases oj with ⟨d, e5⟩ | ⟨d, e5⟩
    · obtain ⟨a, o', f1, _, _, _, _, l⟩ := E'.slot j _ e5
      rw [e4] at f1; cases f1
      rcases l with l | l
      · exact nL l
      · have : H D = none := l
        rw [hD] at this; cases this
    · obtain ⟨a, o', f1, _, _, _, hb⟩ := E'.slot j _ e5
      rw [e4] at f1; cases f1
      exact nB ⟨j, hb⟩⟩
  exact ⟨(E.unrb E').del f', E'.keep D _ hD nB nL, f'⟩
end
section
variable {S : Stat} {X : Cx} {ex : PW.XC} {pos : Pos}
theorem gl_core {g : PW.WG} {tt : PW.WT} {pel : PW.PEl} {own ts : List Nat} (hts : ∀ i ∈ ts, i ∈ own) {z z' : Z} {G1 : Hp} {ρ1 : PW.Env} {σ : St} {H1 : Hp} {D : Addr} {xs0 : List V} {acc0 : List PW.D} {J : It} {ds : List PW.D} {K : List PW.D → PW.Env → Prop} {FIN : Hp → Prop} {El : St → Hp → (Hp → Prop) → Prop}
    (ok1 : EnvOk S z G1 ρ1 σ (PS.del H1 D)) (of1 : Off z G1 ρ1 σ D) (hD1 : H1 D = some (.lst xs0)) (ra1 : RepL S G1 xs0 acc0) (hf : (own.all fun i => PW.free ρ1 i) = true) (stp : Steps S z' G1 J ds)
    (h1 : PW.genLoop own g tt pel ds acc0 (PW.wipe ρ1 own) K)
    (hfin : ∀ G2 ρ2 ρw H xs acc, EnvOk S z G2 ρ2 σ (PS.del H D) → Same G1 G2 → Off z G2 ρ2 σ D → H D = some (.lst xs) → RepL S G2 xs acc → ρ2 = PW.unwipe ρ1 ρw own → K acc ρw → FIN H)
    (hEl : ∀ z5 G5 ρ5 σ5 H5 xs acc K5 Nx, EnvOk S z5 G5 ρ5 σ5 (PS.del H5 D) → Off z5 G5 ρ5 σ5 D → H5 D = some (.lst xs) → RepL S G5 xs acc → pel ρ5 acc K5 →
      (∀ G6 ρ6 H6 xs6 acc6, EnvOk S z5 G6 ρ6 σ5 (PS.del H6 D) → Same G5 G6 → Off z5 G6 ρ6 σ5 D → H6 D = some (.lst xs6) → RepL S G6 xs6 acc6 → K5 acc6 ρ6 → Nx H6) → El σ5 H5 Nx) :
    ∃ W : Nat → Nat → Hp → Prop, (∃ m, W 0 m H1) ∧ ∀ i m H, W i m H → (J.stop i H ∧ FIN H) ∨ (J.go i H ∧ ∃ Nx : Hp → Prop, (∀ H', Nx H' → ∃ m', m' < m ∧ W (i + 1) m' H') ∧ ∀ x H', J.yld i H x H' →
      ∃ z', GOf S z' ts g x (L2.wipe σ own) H' fun σ2 H2 => L2.wipe σ2 own = L2.wipe σ own ∧ ∃ z', TTOf S z' PW.noX tt σ2 H2 fun b H3 => if b = true then El σ2 H3 Nx else Nx H3) := by
  have okw := ok1.wiped own hf
  have ofw : ∀ j, owned (PW.wipe ρ1 own) j → (L2.wipe σ own)[j]? ≠ some (some (.ref D)) := fun j oj e => by
    obtain ⟨hj, oj'⟩ := owned_wipe oj
    rw [wipeV_get σ j own hj] at e
    exact of1.no j oj' e
  refine ⟨fun i m H2 => m = ds.length - i ∧ i ≤ ds.length ∧ ∃ G2 ρ2 xs acc, EnvOk S (rb z G1 (PW.wipe ρ1 own) (L2.wipe σ own) (PS.del H1 D)) G2 ρ2 (L2.wipe σ own) (PS.del H2 D) ∧ Off (rb z G1 (PW.wipe ρ1 own) (L2.wipe σ own) (PS.del H1 D)) G2 ρ2 (L2.wipe σ own) D ∧ H2 D = some (.lst xs) ∧ RepL S G2 xs acc ∧
    PW.genLoop own g tt pel (ds.drop i) acc ρ2 K, ⟨ds.length, by simp, Nat.zero_le _, G1, _, xs0, acc0, okw.rb_self, ⟨of1.g, del_self, of1.nr, ofw⟩, hD1, ra1, by simpa using h1⟩, ?_⟩
  rintro i m H2 ⟨rfl, hi, G2, ρ2, xs, acc, e2, f2, hD, ra, h2⟩
  have sg2 : Same G1 G2 := e2.grow
  have ok2 := e2.undel hD
  obtain ⟨go, stop⟩ := stp i _ G2 ρ2 _ H2 ok2 sg2
  by_cases hlt : i < ds.length
  · obtain ⟨g1, y1⟩ := go _ (List.getElem?_eq_getElem hlt)
    rw [List.drop_eq_getElem_cons hlt] at h2
    refine .inr ⟨g1, fun H' => ∃ G2 ρ2 xs acc, EnvOk S (rb z G1 (PW.wipe ρ1 own) (L2.wipe σ own) (PS.del H1 D)) G2 ρ2 (L2.wipe σ own) (PS.del H' D) ∧ Off (rb z G1 (PW.wipe ρ1 own) (L2.wipe σ own) (PS.del H1 D)) G2 ρ2 (L2.wipe σ own) D ∧ H' D = some (.lst xs) ∧ RepL S G2 xs acc ∧
      PW.genLoop own g tt pel (ds.drop (i + 1)) acc ρ2 K, fun H' hn => ⟨ds.length - (i + 1), by omega, rfl, hlt, hn⟩, fun x H3 y => ?_⟩
    obtain ⟨G3, ok3, sg3, r3, st3⟩ := y1 x H3 y
    obtain ⟨hD3, gD3'⟩ := st3 D _ hD
    have f3 : Off (rb z G1 (PW.wipe ρ1 own) (L2.wipe σ own) (PS.del H1 D)) G3 ρ2 (L2.wipe σ own) D := ⟨gD3' f2.g, f2.z0, f2.nr, f2.no⟩
    -- behind a turn
    have after : ∀ {G6 : Hp} {ρ6 : PW.Env} {σ4 : St} {H6 : Hp}, EnvOk S (rb z G1 (PW.wipe ρ1 own) (L2.wipe σ own) (PS.del H1 D)) G6 ρ6 σ4 (PS.del H6 D) → Off (rb z G1 (PW.wipe ρ1 own) (L2.wipe σ own) (PS.del H1 D)) G6 ρ6 σ4 D → Keeps ts (L2.wipe σ own) σ4 →
        EnvOk S (rb z G1 (PW.wipe ρ1 own) (L2.wipe σ own) (PS.del H1 D)) G6 (PW.wipe ρ6 own) (L2.wipe σ own) (PS.del H6 D) ∧ Off (rb z G1 (PW.wipe ρ1 own) (L2.wipe σ own) (PS.del H1 D)) G6 (PW.wipe ρ6 own) (L2.wipe σ own) D := fun {G6 ρ6 σ4 H6} ok7 f7 kp => by
      have l4 : σ4.length = σ.length := by rw [kp.1, L2.wipe_length]
      have fr : (own.all fun i => PW.free ρ6 i) = true := List.all_eq_true.mpr fun j hj => by
        have hr := List.all_eq_true.mp hf j hj
        have hl : j < ρ6.length := by
          rw [ok7.len, l4, ← ok1.len]
          unfold PW.free at hr
          cases e : ρ1[j]? with
          | none => rw [e] at hr; cases hr
          | some sl => exact (List.getElem?_eq_some_iff.mp e).1
        unfold PW.free
        rw [List.getElem?_eq_getElem hl]
        cases e : ρ6[j] with
        | bo d =>
          obtain ⟨a, o, _, _, _, _, hb⟩ := ok7.slot j (.bo d) (by rw [List.getElem?_eq_getElem hl, e])
          obtain ⟨w1, _⟩ := okw.held j a hb
          exact absurd w1 (wipeV_own σ j own hj _)
        | _ => rfl
      have ok8 := ok7.wiped own fr
      rw [wipe_keeps kp hts] at ok8
      refine ⟨ok8, f7.g, f7.z0, f7.nr, fun j oj e => ?_⟩
      obtain ⟨hj, oj'⟩ := owned_wipe oj
      exact f7.no j oj' (by rw [kp.2 j (fun w => hj (hts j w))]; exact e)
    have h3 : g ds[i] ρ2 fun ρ1' => tt PW.noX ρ1' fun b ρ2' => if b = true then pel ρ2' acc fun acc' ρ3 => PW.genLoop own g tt pel (ds.drop (i + 1)) acc' (PW.wipe ρ3 own) K else PW.genLoop own g tt pel (ds.drop (i + 1)) acc (PW.wipe ρ2' own) K := h2
    refine ⟨_, G3, ρ2, _, _, ok3.rb_self, r3, h3, fun G4 ρ4 σ4 H4 ok4 sg4 kp4 h4 => ⟨wipe_keeps kp4 hts, _, G4, ρ4, _, ok4, h4, fun b H5 G5 ρ5 ok5 sg5 h5 => ?_⟩⟩
    obtain ⟨e5, hD5, f5⟩ := kept_off ok3 f3 hD3 ok5
    have ra5 := ((ra.mono sg3).mono sg4).mono sg5
    cases b with
    | true =>
      rw [if_pos rfl] at h5 ⊢
      refine hEl _ G5 ρ5 σ4 H5 xs acc _ _ e5 f5 hD5 ra5 h5 fun G6 ρ6 H6 xs6 acc6 e6 sg6 f6 hD6 ra6 h6 => ?_
      obtain ⟨e7, f7⟩ := after e6 f6 kp4
      exact ⟨G6, _, xs6, acc6, e7, f7, hD6, ra6, h6⟩
    | false =>
      rw [if_neg Bool.false_ne_true] at h5 ⊢
      obtain ⟨e7, f7⟩ := after e5 f5 kp4
      exact ⟨G5, _, xs, acc, e7, f7, hD5, ra5, h5⟩
  · have e : i = ds.length := by omega
    subst e
    rw [List.drop_length] at h2
    have okE := ok1.unwiped hf e2
    refine .inl ⟨stop rfl, hfin G2 _ ρ2 H2 xs acc okE sg2 ⟨f2.g, of1.z0, of1.nr, fun j oj e => ?_⟩ hD ra rfl h2⟩
    have l2 : ρ2.length = σ.length := by
      have := e2.len
      rwa [L2.wipe_length] at this
    by_cases hjl : j < ρ1.length
    · have ge := unwipe_get ρ1 ρ2 j hjl (by rw [l2, ← ok1.len]; exact hjl) own
      by_cases hj : j ∈ own
      · rw [if_pos hj] at ge
        refine of1.no j ?_ e
        rcases oj with ⟨d, w⟩ | ⟨d, w⟩ <;> rw [ge] at w
        · exact .inl ⟨d, w⟩
        · exact .inr ⟨d, w⟩
      · rw [if_neg hj] at ge
        refine f2.no j ?_ (by rw [wipeV_get σ j own hj]; exact e)
        rcases oj with ⟨d, w⟩ | ⟨d, w⟩ <;> rw [ge] at w
        · exact .inl ⟨d, w⟩
        · exact .inr ⟨d, w⟩
    · have : j < σ.length := (List.getElem?_eq_some_iff.mp e).1
      rw [← ok1.len] at this
      exact absurd this hjl
theorem tLc2Of {z : Z} {wi wi1 : PW.WI} {g g1 : PW.WG} {tt tt1 : PW.WT} {we : PW.WE} {own own1 ts ts1 : List Nat} (hts : ∀ i ∈ ts, i ∈ own) (hts1 : ∀ i ∈ ts1, i ∈ own1) {σ : St} {H : Hp} {Q : VK} (h : NOf S z ex (PW.nLc2 own own1 wi g tt wi1 g1 tt1 we) σ H Q) :
    tLc2 (IOf S z ex wi) (fun v σ H Q => ∃ z', GOf S z' ts g v σ H Q) (fun σ H Q => ∃ z', TTOf S z' PW.noX tt σ H Q) (fun σ H R => ∃ z', IOf S z' PW.noX wi1 σ H R) (fun v σ H Q => ∃ z', GOf S z' ts1 g1 v σ H Q) (fun σ H Q => ∃ z', TTOf S z' PW.noX tt1 σ H Q) (fun σ H Q => ∃ z', TOf S z' PW.noX we σ H Q) own own1 σ H Q := by
  obtain ⟨G, ρ, q, ok, h, k⟩ := h
  refine ⟨G, ρ, _, ok, h, fun J H1 G1 ρ1 ds ok1 sg1 stp ⟨hf, h1⟩ D nD => ?_⟩
  have nrd : ¬ z.rd D := fun hr => by
    obtain ⟨⟨u, e⟩, _⟩ := ok1.rdo D hr
    rw [nD] at e; cases e
  obtain ⟨nb, ol⟩ := ok1.new0 nD
  -- D is new: the entry's heap is looked at without it
  have hdel : PS.del (upd H1 D (.lst [])) D = H1 := by
    rw [del_upd]; funext a
    by_cases w : a = D
    · subst w; rw [del_self, nD]
    · rw [del_ne w]
  have no1 : ∀ j, owned ρ1 j → σ[j]? ≠ some (some (.ref D)) := fun j oj e => by
    obtain ⟨u, hu⟩ := ok1.there oj e
    rw [nD] at hu; cases hu
  -- the state as an entry of its own
  have okb := ok1.rb_self
  have Hel : ∀ z5 G5 ρ5 σ5 H5 xs acc K5 (Nx : Hp → Prop), EnvOk S z5 G5 ρ5 σ5 (PS.del H5 D) → Off z5 G5 ρ5 σ5 D → H5 D = some (.lst xs) → RepL S G5 xs acc → PW.elt1 we ρ5 acc K5 →
      (∀ G6 ρ6 H6 xs6 acc6, EnvOk S z5 G6 ρ6 σ5 (PS.del H6 D) → Same G5 G6 → Off z5 G6 ρ6 σ5 D → H6 D = some (.lst xs6) → RepL S G6 xs6 acc6 → K5 acc6 ρ6 → Nx H6) →
      ∃ z', TOf S z' PW.noX we σ5 H5 fun y H7 => ∃ acc, H7 D = some (.lst acc) ∧ acc.length < sizeLine ∧ Nx (upd H7 D (.lst (acc ++ [y]))) := by
    intro z5 G5 ρ5 σ5 H5 xs acc K5 Nx e5 f5 hD5 ra5 h5 nx
    have okr := e5.undel hD5
    refine ⟨_, G5, ρ5, _, okr.rb_self, h5, fun y H6 G6 ρ6 dy ok6 sg6 ry ⟨hl, h6⟩ => ?_⟩
    obtain ⟨e6, hD6, f6⟩ := kept_off okr f5 hD5 ok6
    exact ⟨xs, hD6, by rw [ra5.len, ← line_eq]; exact hl, nx G6 ρ6 _ _ _ (by rw [del_upd]; exact e6) sg6 f6 upd_same ((ra5.mono sg6).append (.cons ry .nil)) h6⟩
  have core := gl_core (S := S) (g := g) (tt := tt) (pel := PW.elt2 own1 wi1 g1 tt1 we) (own := own) (ts := ts) hts (z := rb z G1 ρ1 σ H1) (z' := z) (G1 := G1) (ρ1 := ρ1) (σ := σ) (H1 := upd H1 D (.lst [])) (D := D) (xs0 := []) (acc0 := []) (J := J) (ds := ds)
    (K := fun acc ρ2 => q (.lst acc) (PW.unwipe ρ1 ρ2 own)) (FIN := fun H => Q (.ref D) H)
    (El := fun σ2 H3 Nx => ∃ z', IOf S z' PW.noX wi1 σ2 H3 fun J1 H4 => ∃ W1 : Nat → Nat → Hp → Prop, (∃ m, W1 0 m H4) ∧ ∀ j k H, W1 j k H →
      (J1.stop j H ∧ Nx H) ∨ (J1.go j H ∧ ∃ Nx1 : Hp → Prop, (∀ H', Nx1 H' → ∃ k', k' < k ∧ W1 (j + 1) k' H') ∧ ∀ x H', J1.yld j H x H' → ∃ z', GOf S z' ts1 g1 x (L2.wipe σ2 own1) H' fun σ3 H5 => L2.wipe σ3 own1 = L2.wipe σ2 own1 ∧ ∃ z', TTOf S z' PW.noX tt1 σ3 H5 fun b H6 =>
        if b = true then ∃ z', TOf S z' PW.noX we σ3 H6 fun y H7 => ∃ acc, H7 D = some (.lst acc) ∧ acc.length < sizeLine ∧ Nx1 (upd H7 D (.lst (acc ++ [y]))) else Nx1 H6))
    (by rw [hdel]; exact okb) ⟨ok1.same.free nD, nD, nrd, no1⟩ upd_same .nil hf stp h1
    (fun G2 ρ2 ρw H xs acc e2 sg2 f2 hD ra eρ hk => ?_) (fun z5 G5 ρ5 σ5 H5 xs acc K5 Nx e5 f5 hD5 ra5 h5 nx => ?_)
  · exact core
  · subst eρ
    have ok2 := e2.undel hD
    have okz := ok1.unrb ok2
    exact k D H G2 _ _ okz (sg1.trans sg2) ⟨⟨_, hD, .lst ra⟩, f2.g, nb, ol, f2.no, nrd⟩ hk
  · have okr := e5.undel hD5
    refine ⟨_, G5, ρ5, _, okr.rb_self, h5, fun J1 H6 G6 ρ6 ds1 ok6 sg6 stp1 ⟨hf1, h6⟩ => ?_⟩
    obtain ⟨e6, hD6, f6⟩ := kept_off okr f5 hD5 ok6
    exact gl_core hts1 e6 f6 hD6 (ra5.mono sg6) hf1 stp1 h6 (fun G2 ρ2 ρw H xs acc e2 sg2 f2 hD ra eρ hk => nx G2 ρ2 H xs acc e2 (sg6.trans sg2) f2 hD ra (eρ ▸ hk)) Hel
theorem ne_lc2 {z : Z} {elt tg iter tg1 iter1 : Expr} {ifs ifs1 : List Expr} {scope : Scope} {own : List (Str × Nat)} {own1 ts ts1 : List Nat} {wi wi1 : PW.WI} {g g1 : PW.WG} {tt tt1 : PW.WT} {we : PW.WE} (hN : X.N.Nodup) (hi : SI S z ex X tg iter wi) (ok : blkC X.N X.env.scope scope own = true)
    (hg : ∀ (s : Shared) (H : Hp) (C : Addr) (cl : List (Str × Addr)) (fp : List Addr) (z' : Z), SG S z' (X.blk s H scope (compEnvC scope cl C X.env) fp) ts tg g)
    (ht : ∀ (s : Shared) (H : Hp) (C : Addr) (cl : List (Str × Addr)) (fp : List Addr) (z' : Z), SP1 S z' (X.blk s H scope (compEnvC scope cl C X.env) fp) ifs tt)
    (hi1 : ∀ (s : Shared) (H : Hp) (C : Addr) (cl : List (Str × Addr)) (fp : List Addr) (z' : Z), SI S z' PW.noX (X.blk s H scope (compEnvC scope cl C X.env) fp) tg1 iter1 wi1)
    (hg1 : ∀ (s : Shared) (H : Hp) (C : Addr) (cl : List (Str × Addr)) (fp : List Addr) (z' : Z), SG S z' (X.blk s H scope (compEnvC scope cl C X.env) fp) ts1 tg1 g1)
    (ht1 : ∀ (s : Shared) (H : Hp) (C : Addr) (cl : List (Str × Addr)) (fp : List Addr) (z' : Z), SP1 S z' (X.blk s H scope (compEnvC scope cl C X.env) fp) ifs1 tt1)
    (he : ∀ (s : Shared) (H : Hp) (C : Addr) (cl : List (Str × Addr)) (fp : List Addr) (z' : Z), SE S z' PW.noX (X.blk s H scope (compEnvC scope cl C X.env) fp) elt we)
    (hts : ∀ i ∈ ts, i ∈ own.map (·.2) := by decide) (hts1 : ∀ i ∈ ts1, i ∈ own1 := by decide) (hv : ∀ i ∈ own1, i ∈ own.map (·.2) := by decide) (hc : X.calm = true := by rfl) (hs : ∀ x, foldedSetIterable iter X.env x = pure x := by intro _; rfl) (hs1 : ∀ env x, foldedSetIterable iter1 env x = pure x := by intro _ _; rfl) :
    NE S z ex X (.ListComp elt [⟨tg, iter, ifs, 0⟩, ⟨tg1, iter1, ifs1, 0⟩] scope pos) (PW.nLc2 (own.map (·.2)) own1 wi g tt wi1 g1 tt1 we) :=
  pe_imp (pe_lc2 (g := fun v σ H Q => ∃ z', GOf S z' ts g v σ H Q) (tt := fun σ H Q => ∃ z', TTOf S z' PW.noX tt σ H Q) (wi1 := fun σ H R => ∃ z', IOf S z' PW.noX wi1 σ H R) (g1 := fun v σ H Q => ∃ z', GOf S z' ts1 g1 v σ H Q) (tt1 := fun σ H Q => ∃ z', TTOf S z' PW.noX tt1 σ H Q) (te := fun σ H Q => ∃ z', TOf S z' PW.noX we σ H Q) hc hN hi (blkOk_by ok) hv
    (fun s H C cl fp => ⟨fun pins s' σ H v u Q I r ⟨z', q⟩ => (hg s _ C cl fp z').run pins s' σ H v u Q I r q⟩)
    (fun s H C cl fp => ⟨fun pins s' σ H Q I ⟨z', q⟩ => (ht s _ C cl fp z').run pins s' σ H Q I q⟩)
    (fun s H C cl fp => ⟨fun pins s' σ H R I ⟨z', q⟩ => (hi1 s _ C cl fp z').run pins s' σ H R I q⟩)
    (fun s H C cl fp => ⟨fun pins s' σ H v u Q I r ⟨z', q⟩ => (hg1 s _ C cl fp z').run pins s' σ H v u Q I r q⟩)
    (fun s H C cl fp => ⟨fun pins s' σ H Q I ⟨z', q⟩ => (ht1 s _ C cl fp z').run pins s' σ H Q I q⟩)
    (fun s H C cl fp => ⟨fun pins s' σ H Q I ⟨z', q⟩ => (he s _ C cl fp z').run pins s' σ H Q I q⟩) hs hs1) fun _ _ _ h => tLc2Of hts hts1 h
end
end PS
end

section
set_option Elab.async false
set_option linter.all false
set_option maxRecDepth 100000
set_option maxHeartbeats 4000000
/-! PS22: set(xs) of a list of ints; sorted(set(xs)), len(set(xs)). -/
namespace PS
open PySem PySem.Spec L2
open PyProof.Rows hiding St
section
variable {P : Program} {w : World} {A : Around} {E : Value → Shared → Prop} {s : Shared}
/-- the empty set that set(..) begins with -/
abbrev set0 (w : World) : Obj := { cls := .type "set", dict := none, data := .set #[] 0 (.fresh 0 0 (!w.params.followText "set-order")) }
set_option maxHeartbeats 3200000 in
theorem set_of_list {l : Addr} {its : Array Value} (ns : List Int) {Q : Value → Shared → Prop} (hh : A.handled = none) (hl : s.heap.IsList l its) (hit : IntsAre its.toList ns) (room : ns.length + 1 < scanBound)
    (h : ∀ (h' : Heap) (tk c : Nat), L2.SetR w h' s.heap.objs.size (fun j => decide (j ∈ ns)) c → c ≤ ns.length → (∀ b o, s.heap.get? b = some o → h'.get? b = some o) → Q (.ref s.heap.objs.size) { s with heap := h', toks := tk }) :
    wpAny (model P w) A (call (.type "set") [.ref l]) Q E s := by
  have size : its.size = ns.length := by rw [← IntsAre.length hit, Array.length_toList]
  obtain ⟨c, tl, mro⟩ := PySem.F.called_set.mro
  have ma := PySem.F.called_set.made; have su := PySem.F.called_set.sub; have nt := PySem.F.called_set.notType; have cc := PySem.F.called_set.canCreate; have tc := PySem.F.typeCall_set_1 (.ref l)
  refine wpAny_call (codeAny_of_tree (show wpAny _ _ (callAny (.type "set") _) _ _ _ from wpAny_pure ⟨Code.quiet_builtin _ (by decide +kernel), codeAny_builtin PySem.F.entry_type_call ?_⟩))
  rw [Around.under_plain (weight_type_call_type "set" [.ref l] []) rfl]
  repeat (any_goals (first | assumption | wp_step))
  refine codeAny_mono (L2.code_set_led1 (.ref l) (E := E) (Q₁ := fun ob s1 => ob = .ref s.heap.objs.size ∧ s1 = { s with heap := s.heap.push (set0 w) }) ⟨rfl, rfl⟩) fun r s1 hr => ?_
  cases r <;> first | exact hr | skip
  rename_i fl
  cases fl <;> first | exact hr.elim | skip
  rename_i ob
  obtain ⟨rfl, rfl⟩ := hr
  have at0 : (s.heap.push (set0 w)).get? s.heap.objs.size = some (set0 w) := Heap.get?_push_size _ rfl
  have ty0 : Shared.TypeIs { s with heap := s.heap.push (set0 w) } (.ref s.heap.objs.size) "set" := ⟨_, at0, rfl⟩
  have lk := PySem.F.called_set.init.lookup; have bi := PySem.F.called_set.init.bind (.ref s.heap.objs.size)
  repeat (any_goals (first | assumption | wp_step))
  refine codeAny_mono (codeAny_call_builtin (R := wants (fun r s2 => r = .none ∧ ∃ h' tk c, s2 = { s with heap := h', toks := tk } ∧ L2.SetR w h' s.heap.objs.size (fun j => decide (j ∈ ns)) c ∧ c ≤ ns.length ∧ ∀ b o, s.heap.get? b = some o → h'.get? b = some o) E)
    PySem.F.called_set.init.plain PySem.F.entry_set_init (check_set_init_1 ty0 ?_)) fun r2 s2 hr2 => ?_
  · obtain ⟨ol, hol, hcl, nl, hdl⟩ := hl
    obtain ⟨oc, od, oda, osl⟩ := ol
    simp only at hcl hdl
    subst hcl; subst hdl
    have at1 : (s.heap.push (set0 w)).get? l = some { cls := .type "list", dict := od, data := .seq its nl, slots := osl } := Heap.get?_push_of_some _ hol
    have s1 := PySem.F.sub_list_set; have s2 := PySem.F.sub_list_frozenset
    have nd : (Value.type "list" == Value.type "dict") = false := by decide
    have il : (s.heap.push (set0 w)).IsList l its := ⟨_, at1, rfl, nl, rfl⟩
    unfold Builtin.«set.__init__» noKeywords Builtin.Frozenset.updateFrom
    generalize e : pyIter = it; wp_walk; subst e
    refine wpAny_pyIter_list il (wpAny_bind (wpAny_runValue ?_))
    have lt0 : l < s.heap.objs.size := Heap.lt_size hol
    have h3 : A.in1.in1.in1.handled = none := by simp [hh]
    have ne1 : l ≠ (s.heap.push (set0 w)).objs.size := by rw [Heap.size_push]; exact Nat.ne_of_lt (Nat.lt_succ_of_lt lt0)
    have nf : s.heap.objs.size ∉ [(s.heap.push (set0 w)).objs.size, l] := by
      rw [Heap.size_push]; simp only [List.mem_cons, List.not_mem_nil, or_false, not_or]; exact ⟨Nat.ne_of_lt (Nat.lt_succ_self _), Nat.ne_of_gt lt0⟩
    have val : ∀ (i : Nat) (v : Value), its[i]? = some v → ∃ k t, ns[i]? = some k ∧ v = .int k t := fun i v hv => by
      have hi : i < ns.length := by rw [← size]; exact (Array.getElem?_eq_some_iff.mp hv).1
      obtain ⟨t, q⟩ := PyProof.Rows.IntsAre.int_at hit i v (by rw [Array.getElem?_toList]; exact hv)
      exact ⟨ns[i], t, List.getElem?_eq_getElem hi, by rw [q, List.getD_eq_getElem?_getD, List.getElem?_eq_getElem hi] <;> rfl⟩
    refine L2.set_update_ints ((Walks.list h3 _ l ne1 its).toS) s.heap.objs.size nf ns size room val (its.size - 0) 0 _ (by omega) (Nat.zero_le _) ⟨⟨_, Heap.get?_push_size _ rfl, rfl, rfl⟩, il.push _⟩ ?_ ?_
    · exact ⟨0, Nat.le_refl 0, L2.setR_new_at (Heap.get?_push_of_some _ at0)⟩
    · intro s' c' hm hc' hS'
      obtain ⟨h', g2, d', tk', os'⟩ := s'
      obtain rfl : g2 = s.gens := hm.gens
      obtain rfl : d' = s.drawn := hm.drawn
      obtain rfl : os' = s.os := hm.os
      refine show wpAny _ _ _ _ _ _ from wpAny_pure (show wpAny _ _ (ret Value.none) _ _ _ from ?_)
      rw [size] at hc'
      refine wpAny_pure ⟨rfl, h', tk', c', rfl, hS', hc', fun b o q => ?_⟩
      have lb : b < s.heap.objs.size := Heap.lt_size q
      refine hm.heap b o ?_ (Heap.get?_push_of_some _ (Heap.get?_push_of_some _ q))
      rw [Heap.size_push]
      simp only [List.mem_cons, List.not_mem_nil, or_false, not_or]
      exact ⟨Nat.ne_of_lt lb, Nat.ne_of_lt (Nat.lt_succ_of_lt lb)⟩
  · cases r2 <;> first | exact hr2 | skip
    rename_i fl2
    cases fl2 <;> first | exact hr2.elim | skip
    obtain ⟨rfl, h', tk, c', rfl, hS', hc', hk'⟩ := hr2
    repeat (any_goals (first | assumption | wp_step))
    exact h _ _ _ hS' hc' hk'
end
theorem intsAre_of : ∀ {ns : List Int} {its : List Value}, Vals (ns.map V.int) its → IntsAre its ns
  | [], _, .nil => .nil
  | k :: ks, _, .cons r t => by
    obtain ⟨tk, rfl⟩ := (show ∃ t, _ = Value.int k t from r)
    exact .cons _ _ (intsAre_of t)
/-- set(xs), xs a list of ints -/
def rSetInts (K : PySem.W.Frag) (w : World) : List V → Hp → VK → Prop := fun vs H Q => ∃ (a : Addr) (ns : List Int), vs = [.ref a] ∧ SqL K H a (ns.map V.int) ∧ ns.length < 4000 ∧ ∀ c p, c ≤ ns.length → H p = none → Q (.ref p) (upd H p (SetO w p (fun j => decide (j ∈ ns)) c))
theorem cr_setInts {X : Cx} (hc : X.calm = true) : CallR X (.type "set") (rSetInts X.K X.w) := fun pins s σ H vs us Q I r h => by
  obtain ⟨a, ns, rfl, sq, room, q⟩ := h
  rw [Vals.ref1 r]
  obtain ⟨its, rv, pl, _⟩ := I.list sq
  obtain ⟨o, n, e, c, d, ds⟩ := pl
  have hin := intsAre_of rv
  refine set_of_list (its := its.toArray) ns (I.ok.hd hc) ⟨o, e, c, n, ds⟩ (by simpa using hin) (by show ns.length + 1 < 4096; omega) fun h' tk c' hS hle hk => ?_
  have hp : H s.heap.objs.size = none := I.hok.fresh (Nat.le_refl _)
  exact ⟨.ref s.heap.objs.size, _, I.laid (a := s.heap.objs.size) (t' := tk) hk (Nat.le_refl _) (setO_new hS), rfl, q c' _ hle hp⟩
end PS
end

section
set_option Elab.async false
set_option linter.all false
set_option maxRecDepth 100000
set_option maxHeartbeats 4000000
/-! PS23: sorted(set(xs)); methods of texts. -/
namespace PS
open PySem PySem.Spec L2
open PyProof.Rows hiding St
section
variable {S : Stat} {X : Cx} {z : Z} {ex : PW.XC} {a b e o : Expr} {wa wb we : PW.WE} {ra ro : PW.WR} {pos p p2 pos2 : Pos}
theorem n_sortSet {w : World} {K : PySem.W.Frag} (hK : K = S.K) : N1 S PW.fSortSet (fun v H Q => rSetInts K w [v] H fun y H2 => rSortedSet w [y] H2 Q) := fun z G ρ σ H x d q Q E hx hf k => by
  cases d <;> first | exact hf.elim | skip
  obtain ⟨a, xs, rfl, ha, ra⟩ := hx.lst_of E.same
  obtain ⟨ns, h1, h2, h3⟩ := hf
  refine ⟨a, ns, rfl, ints_of ra h1 ▸ SqL.of ha, by omega, fun c p hc np => ⟨p, _, c, rfl, upd_same, by omega, fun ms p3 hs hm hl np3 => ?_⟩⟩
  have E1 := E.laidH np (SetO w p (fun j => decide (j ∈ ns)) c)
  have rl : ∀ ms : List Int, RepL S G (ms.map V.int) (ms.map PW.D.int) := fun ms => by
    induction ms with
    | nil => exact .nil
    | cons m ms ih => exact .cons (.int m) ih
  obtain ⟨E2, N⟩ := E1.newN np3 (Own.lst (a := p3) (rl ms))
  exact k p3 _ _ E2 N (h3 ms hs fun j => by rw [hm j]; exact decide_eq_true_iff)
theorem ne_sortSet (hS : X.mg "sorted" = none) (hT : X.mg "set" = none) (ha : RE S z ex X a ra) (hK : X.K = S.K := by rfl) (hc : X.calm = true := by rfl) (g1 : Gl X "sorted" := by rfl) (g2 : Gl X "set" := by rfl)
    (he : starEach [a] X.env = (false, eval a X.env) :: starEach [] X.env := by rfl) (he2 : starEach [.Call (.Name "set" p2) [a] [] pos2] X.env = (false, eval (.Call (.Name "set" p2) [a] [] pos2) X.env) :: starEach [] X.env := by rfl) :
    NE S z ex X (.Call (.Name "sorted" p) [.Call (.Name "set" p2) [a] [] pos2] [] pos) (PW.wLk PW.fSortSet ra) :=
  ne_lk (n_sortSet (w := X.w) hK) ha fun t ht => pe_callB (cr_sortedSet hc) g1 hS (by decide +kernel) (pa_cons (pe_callTy (cr_setInts hc) g2 hT (by decide +kernel) (pa_cons ht pa_nil he) (by decide) (by decide) he) pa_nil he2) (by decide) (by decide) he2
/-! ### methods of texts -/
theorem at_one (x : Str) (c i : Nat) : StrLaws.At x ⟨#[c]⟩ x.length i ↔ (cpl x)[i]? = some c := StrLaws.subAt_one x c i
theorem first_is {s : List Nat} {c i : Nat} (h : s[i]? = some c) (hn : ∀ k, k < i → s[k]? ≠ some c) : c ∈ s ∧ s.idxOf c = i := by
  refine ⟨List.mem_of_getElem? h, ?_⟩
  induction s generalizing i with
  | nil => simp at h
  | cons x s ih =>
    rw [List.idxOf_cons]
    cases i with
    | zero => simp at h; subst h; simp
    | succ i =>
      have h0 : x ≠ c := fun e => hn 0 (by omega) (by simp [e])
      rw [beq_eq_false_iff_ne.mpr h0]
      have := ih (i := i) (by simpa using h) fun k hk => by simpa using hn (k + 1) (by omega)
      simp [this]
theorem str1 {G : Hp} {y : V} {c : Nat} (h : Rep S G y (.str [c])) : y = .str ⟨#[c]⟩ := by
  obtain ⟨x, rfl, hx⟩ := h.str_of
  rw [mk1 hx]
/-- a method of a text -/
theorem tMt {f : PW.F2} {m : String} {r : V → List V → Hp → VK → Prop} (l : ∀ (z : Z) (G : Hp) (ρ : PW.Env) (σ : St) (H : Hp) (x y : V) (d e : PW.D) (q : PW.D → Prop) (Q : VK), EnvOk S z G ρ σ H → Look S G H x d → Rep S G y e → f d e q → (∀ v H' G' d, EnvOk S z G' ρ σ H' → Same G G' → Rep S G' v d → q d → Q v H') → r x [y] H Q)
    {K : PySem.W.Frag} {σ : St} {H : Hp} {Q : VK} (h : TOf S z ex (PW.wMt PW.isStr f ro we) σ H Q) : tBM K "str" r (ROf S z ex ro) (tCons (TOf S z ex we) tNil) σ H Q := by
  obtain ⟨G, ρ, q, E, w, k⟩ := h
  refine ⟨G, ρ, _, E, w, fun x H1 G1 ρ1 p E1 sg1 pk ⟨ht, w1⟩ => ⟨?_, G1, ρ1, _, E1, w1, fun y H2 G2 ρ2 e E2 sg2 r2 hp => ?_⟩⟩
  · obtain ⟨d, lk, hd⟩ := pk G1 ρ1 H1 _ E1 (Same.refl _) ht
    cases d <;> first | exact hd.elim | skip
    obtain ⟨s, rfl, _⟩ := lk.str_of
    exact rfl
  · obtain ⟨d, lk, hf⟩ := pk G2 ρ2 H2 _ E2 sg2 hp
    exact l z G2 ρ2 σ H2 x y d e _ Q E2 lk r2 hf fun v H3 G3 d3 E3 sg3 r3 q3 => k v H3 G3 ρ2 d3 E3 ((sg1.trans sg2).trans sg3) r3 q3
theorem se_smt {f : PW.F2} {m : Str} {id : String} {r : V → List V → Hp → VK → Prop} {apos cpos : Pos} (l : ∀ (z : Z) (G : Hp) (ρ : PW.Env) (σ : St) (H : Hp) (x y : V) (d e : PW.D) (q : PW.D → Prop) (Q : VK), EnvOk S z G ρ σ H → Look S G H x d → Rep S G y e → f d e q → (∀ v H' G' d, EnvOk S z G' ρ σ H' → Same G G' → Rep S G' v d → q d → Q v H') → r x [y] H Q)
    (slot : Slot "str" m id) (hty : typeOf (.builtin id) = pure (.type "method_descriptor")) (hm : MtR X id r) (ho : RE S z ex X o ro) (he : SE S z ex X e we)
    (hbase : attributeBase o m X.env (eval o X.env) = eval o X.env := by rfl)
    (hfew : ((backTo cpos (starEach [e] X.env)).all (fun x => !x.1) && (backToKw cpos (keywordEach [] X.env)).all (fun x => x.1.isSome)
      && decide (([e] : List Expr).length + ([] : List Keyword).length + (if ([] : List Keyword).isEmpty then 0 else 1) < 30)) = true := by rfl)
    (hline : (apos.endLine == cpos.line) = true := by rfl) (hs : starEach [e] X.env = (false, eval e X.env) :: starEach [] X.env := by rfl) :
    SE S z ex X (.Call (.Attribute o m apos) [e] [] cpos) (PW.wMt PW.isStr f ro we) :=
  pe_imp (pe_bm PySem.F.plainAttrs_str slot hty hm ho (pa_cons he pa_nil hs) hbase hfew hline hs (by rfl)) fun _ _ _ h => tMt (m := "") l h
theorem occ1 (x : Str) (c : Nat) : (c ∉ cpl x ∧ Builtin.Str.occurrences x ⟨#[c]⟩ 0 x.length 1 = []) ∨ ∃ r, c ∈ cpl x ∧ Builtin.Str.occurrences x ⟨#[c]⟩ 0 x.length 1 = (cpl x).idxOf c :: r := by
  rcases StrLaws.occ_head x ⟨#[c]⟩ 1 (Nat.le_refl 1) with ⟨h0, hn⟩ | ⟨i, r, h0, hi, hn⟩
  · refine .inl ⟨fun hm => ?_, h0⟩
    obtain ⟨i, hi⟩ := List.mem_iff_getElem?.mp hm
    exact hn i ((at_one x c i).mpr hi)
  · obtain ⟨h1, h2⟩ := first_is ((at_one x c i).mp hi) fun k hk q => hn k hk ((at_one x c k).mpr q)
    exact .inr ⟨r, h1, by rw [h0, h2]⟩
theorem se_sindex {apos cpos : Pos} (ho : RE S z ex X o ro) (he : SE S z ex X e we) (hbase : attributeBase o "index" X.env (eval o X.env) = eval o X.env := by rfl)
    (hfew : ((backTo cpos (starEach [e] X.env)).all (fun x => !x.1) && (backToKw cpos (keywordEach [] X.env)).all (fun x => x.1.isSome)
      && decide (([e] : List Expr).length + ([] : List Keyword).length + (if ([] : List Keyword).isEmpty then 0 else 1) < 30)) = true := by rfl)
    (hline : (apos.endLine == cpos.line) = true := by rfl) (hs : starEach [e] X.env = (false, eval e X.env) :: starEach [] X.env := by rfl) :
    SE S z ex X (.Call (.Attribute o "index" apos) [e] [] cpos) (PW.wMt PW.isStr PW.fSIndex ro we) := by
  refine se_smt (fun z G ρ σ H x y d e q Q E hx hy hf k => ?_) PySem.F.slot_str_index PySem.F.type_str_index mt_sindex ho he hbase hfew hline hs
  unfold PW.fSIndex at hf
  split at hf <;> first | exact hf.elim | skip
  rename_i s c
  obtain ⟨x', rfl, rfl⟩ := hx.str_of
  cases str1 hy
  rcases occ1 x' c with ⟨h, _⟩ | ⟨r, h, e⟩
  · exact absurd hf.1 h
  · exact ⟨x', _, _, r, rfl, rfl, e, k _ H G _ E (Same.refl G) (.int _) hf.2⟩
theorem se_sfind {apos cpos : Pos} (ho : RE S z ex X o ro) (he : SE S z ex X e we) (hbase : attributeBase o "find" X.env (eval o X.env) = eval o X.env := by rfl)
    (hfew : ((backTo cpos (starEach [e] X.env)).all (fun x => !x.1) && (backToKw cpos (keywordEach [] X.env)).all (fun x => x.1.isSome)
      && decide (([e] : List Expr).length + ([] : List Keyword).length + (if ([] : List Keyword).isEmpty then 0 else 1) < 30)) = true := by rfl)
    (hline : (apos.endLine == cpos.line) = true := by rfl) (hs : starEach [e] X.env = (false, eval e X.env) :: starEach [] X.env := by rfl) :
    SE S z ex X (.Call (.Attribute o "find" apos) [e] [] cpos) (PW.wMt PW.isStr PW.fSFind ro we) := by
  refine se_smt (fun z G ρ σ H x y d e q Q E hx hy hf k => ?_) PySem.F.slot_str_find PySem.F.type_str_find mt_find ho he hbase hfew hline hs
  unfold PW.fSFind at hf
  split at hf <;> first | exact hf.elim | skip
  rename_i s c
  obtain ⟨x', rfl, rfl⟩ := hx.str_of
  cases str1 hy
  refine ⟨x', _, rfl, rfl, k _ H G _ E (Same.refl G) (.int _) ?_⟩
  have e : Txt.find x' ⟨#[c]⟩ = if c ∈ cpl x' then ((cpl x').idxOf c : Int) else -1 := by
    unfold Txt.find
    rcases occ1 x' c with ⟨h, e⟩ | ⟨r, h, e⟩
    · rw [e, if_neg h]
    · rw [e, if_pos h]
  rw [e]; exact hf
end
end PS
end

section
set_option linter.all false
set_option maxHeartbeats 4000000
set_option maxRecDepth 100000
/-! PWL: loops and comprehensions by invariants. -/
namespace PW
theorem line_eq : line = 16777216 := rfl
theorem back_nil (os : List Sl) (ρ : Env) : back [] os ρ = ρ := by cases os <;> rfl
theorem back_v (d : D) (as : List Ar) (os : List Sl) (ρ : Env) : back (.v d :: as) os ρ = back as os.tail ρ := by
  cases os with
  | nil => cases as with
    | nil => rfl
    | cons a as => cases a <;> rfl
  | cons => rfl
theorem back_r (i : Nat) (as : List Ar) (os : List Sl) (ρ : Env) : back (.r i :: as) os ρ = back as os.tail ρ := by
  cases os with
  | nil => cases as with
    | nil => rfl
    | cons a as => cases a <;> rfl
  | cons => rfl
theorem back_b (i : Nat) (as : List Ar) (o : Sl) (os : List Sl) (ρ : Env) : back (.b i :: as) (o :: os) ρ = back as os (match ρ[i]?, o with
    | some (.ow _), .bo d => ρ.set i (.ow d)
    | some (.bo _), .bo d => ρ.set i (.bo d)
    | _, _ => ρ) := rfl
/-- a statement, then the rest: P stands between -/
theorem seq_cut {a b : WS} {ex : XC} {E : Ends} {ρ : Env} (P : Env → Prop) (ha : ∀ K, (∀ ρ', P ρ' → K ρ') → a ex { E with nx := K } ρ) (hb : ∀ ρ', P ρ' → b ex E ρ') : sSeq a b ex E ρ := ha _ hb
theorem loop_ix {g : WG} {b : WS} {ex : XC} {E : Ends} (ds : List D) (I : Nat → Env → Prop) {ρ : Env} (h0 : I 0 ρ)
    (hs : ∀ i d ρ (K : Env → Prop), ds[i]? = some d → I i ρ → (∀ ρ', I (i + 1) ρ' → K ρ') → g d ρ fun ρ1 => b ex { E with nx := K, ct := K, bk := E.nx } ρ1)
    (hn : ∀ ρ, I ds.length ρ → E.nx ρ) : loop g b ex ds E ρ := by
  have main : ∀ (n : Nat) (ds' : List D) (i : Nat) (ρ : Env), ds'.length = n → ds' = ds.drop i → i ≤ ds.length → I i ρ → loop g b ex ds' E ρ := by
    intro n
    induction n with
    | zero =>
      intro ds' i ρ hl hd hi hI
      have : ds' = [] := List.length_eq_zero_iff.mp hl
      subst this
      have e : i = ds.length := by
        have := congrArg List.length hd
        simp at this; omega
      subst e
      exact hn ρ hI
    | succ n ih =>
      intro ds' i ρ hl hd hi hI
      cases ds' with
      | nil => simp at hl
      | cons d r =>
        have hlt : i < ds.length := by
          have := congrArg List.length hd
          simp at this; omega
        have hc : ds.drop i = ds[i] :: ds.drop (i + 1) := List.drop_eq_getElem_cons hlt
        rw [hc] at hd
        injection hd with h1 h2
        exact hs i d ρ _ (by rw [List.getElem?_eq_getElem hlt, h1]) hI fun ρ' hI' => ih r (i + 1) ρ' (by simpa using hl) h2 hlt hI'
  exact main _ ds 0 ρ rfl (by simp) (Nat.zero_le _) h0
theorem lc_ix {own : List Nat} {g : WG} {t : WT} {e : WE} {Q : List D → Env → Prop} (ds : List D) (I : Nat → List D → Env → Prop) {acc : List D} {ρ : Env} (h0 : I 0 acc ρ)
    (hs : ∀ i d acc ρ (K : List D → Env → Prop), ds[i]? = some d → I i acc ρ → (∀ acc' ρ', I (i + 1) acc' ρ' → K acc' ρ') →
      g d ρ fun ρ1 => t noX ρ1 fun b ρ2 => if b = true then e noX ρ2 fun y ρ3 => acc.length < line ∧ K (acc ++ [y]) (wipe ρ3 own) else K acc (wipe ρ2 own))
    (hn : ∀ acc ρ, I ds.length acc ρ → Q acc ρ) : lcLoop own g t e ds acc ρ Q := by
  have main : ∀ (n : Nat) (ds' : List D) (i : Nat) (acc : List D) (ρ : Env), ds'.length = n → ds' = ds.drop i → i ≤ ds.length → I i acc ρ → lcLoop own g t e ds' acc ρ Q := by
    intro n
    induction n with
    | zero =>
      intro ds' i acc ρ hl hd hi hI
      have : ds' = [] := List.length_eq_zero_iff.mp hl
      subst this
      have e : i = ds.length := by
        have := congrArg List.length hd
        simp at this; omega
      subst e
      exact hn acc ρ hI
    | succ n ih =>
      intro ds' i acc ρ hl hd hi hI
      cases ds' with
      | nil => simp at hl
      | cons d r =>
        have hlt : i < ds.length := by
          have := congrArg List.length hd
          simp at this; omega
        have hc : ds.drop i = ds[i] :: ds.drop (i + 1) := List.drop_eq_getElem_cons hlt
        rw [hc] at hd
        injection hd with h1 h2
        exact hs i d acc ρ (fun acc' ρ' => lcLoop own g t e r acc' ρ' Q) (by rw [List.getElem?_eq_getElem hlt, h1]) hI fun acc' ρ' hI' => ih r (i + 1) acc' ρ' (by simpa using hl) h2 hlt hI'
  exact main _ ds 0 acc ρ rfl (by simp) (Nat.zero_le _) h0
/-- [f(d) for d in ds], the slots standing -/
theorem lc_map {own : List Nat} {g : WG} {e : WE} {Q : List D → Env → Prop} {ds : List D} (L : List D) {ρ0 : Env} (hl : L.length = ds.length) (hz : ds.length ≤ line)
    (hs : ∀ (i : Nat) (d y : D) (K : D → Env → Prop), ds[i]? = some d → L[i]? = some y → (∀ ρ', wipe ρ' own = ρ0 → K y ρ') → g d ρ0 fun ρ1 => e noX ρ1 K) (hQ : Q L ρ0) : lcLoop own g tYes e ds [] ρ0 Q := by
  refine lc_ix ds (fun i acc ρ => acc = L.take i ∧ ρ = ρ0) ⟨by simp, rfl⟩ (fun i d acc ρ K hd ⟨ha, hr⟩ hK => ?_) (fun acc ρ ⟨ha, hr⟩ => by rw [ha, hr, ← hl, List.take_length]; exact hQ)
  subst ha hr
  have hi : i < ds.length := (List.getElem?_eq_some_iff.mp hd).1
  have hiL : i < L.length := by omega
  refine hs i d L[i] _ hd (List.getElem?_eq_getElem hiL) fun ρ' hw => ?_
  refine ⟨by simp; omega, hK _ _ ⟨?_, hw⟩⟩
  rw [List.take_add_one, List.getElem?_eq_getElem hiL]; rfl
theorem rng_len (lo : Int) (n : Nat) : (rng lo n).length = n := by
  induction n generalizing lo with
  | zero => rfl
  | succ n ih => rw [rng, List.length_cons, ih]
theorem rng_get (lo : Int) (n i : Nat) : (rng lo n)[i]? = if i < n then some (.int (lo + i)) else none := by
  induction n generalizing lo i with
  | zero => simp [rng]
  | succ n ih =>
    cases i with
    | zero => simp [rng]
    | succ i =>
      rw [rng, List.getElem?_cons_succ, ih]
      simp only [Nat.add_lt_add_iff_right]
      split
      · congr 2; omega
      · rfl
theorem rng_some {lo : Int} {n i : Nat} {d : D} (h : (rng lo n)[i]? = some d) : i < n ∧ d = .int (lo + i) := by
  rw [rng_get] at h
  split at h
  · rename_i hi; cases h; exact ⟨hi, rfl⟩
  · cases h
theorem enumL_get (k : Int) (ds : List D) (i : Nat) : (enumL k ds)[i]? = ds[i]?.map fun d => .tup [.int (k + i), d] := by
  induction ds generalizing k i with
  | nil => simp [enumL]
  | cons d ds ih =>
    cases i with
    | zero => simp [enumL]
    | succ i =>
      rw [enumL, List.getElem?_cons_succ, ih, List.getElem?_cons_succ]
      congr 1; funext d; congr 3; omega
theorem enumL_len (k : Int) (ds : List D) : (enumL k ds).length = ds.length := by
  induction ds generalizing k with
  | nil => rfl
  | cons d ds ih => simp [enumL, ih]
/-- a place in a list -/
theorem atI_nat {α : Type} {xs : List α} {i : Nat} : atI xs (i : Int) = xs[i]? := by
  unfold atI ixN
  by_cases h : (i : Int) < xs.length
  · have h2 : i < xs.length := by omega
    rw [if_pos (by omega), if_pos h]; simp
  · rw [if_pos (by omega), if_neg h]
    have : xs[i]? = none := List.getElem?_eq_none (by omega)
    rw [this]; rfl
theorem atI_of {α : Type} {xs : List α} {i : Int} (h : 0 ≤ i) : atI xs i = xs[i.toNat]? := by
  obtain ⟨n, rfl⟩ := Int.eq_ofNat_of_zero_le h
  rw [atI_nat]; simp
theorem ixN_of {n : Nat} {i : Int} (h : 0 ≤ i) (h2 : i < n) : ixN n i = some i.toNat := by
  unfold ixN; rw [if_pos h, if_pos h2]
theorem cut_tail {α : Type} (x : α) (xs : List α) : cut (x :: xs) (some 1) none = xs := by
  simp [cut, sIx]
theorem atI_0 {α : Type} (x : α) (xs : List α) : atI (x :: xs) 0 = some x := by simp [atI, ixN]
theorem atI_1 {α : Type} (x y : α) (xs : List α) : atI (x :: y :: xs) 1 = some y := by
  have := atI_nat (xs := x :: y :: xs) (i := 1)
  simpa using this
theorem atI_2 {α : Type} (x y z : α) (xs : List α) : atI (x :: y :: z :: xs) 2 = some z := by
  have := atI_nat (xs := x :: y :: z :: xs) (i := 2)
  simpa using this
theorem atI_last {α : Type} (xs : List α) (x : α) : atI (xs ++ [x]) (-1) = some x := by
  unfold atI ixN
  rw [if_neg (by omega), if_pos (by simp; omega)]
  have e : (-1 + ((xs ++ [x]).length : Int)).toNat = xs.length := by simp; omega
  simp only [Option.bind_some]
  rw [e]; simp
end PW
end

section
set_option linter.all false
set_option maxHeartbeats 4000000
set_option maxRecDepth 100000
/-! Q1: the script's numbers. -/
namespace PW
/-- the script's state: the script, the place, the number at hand, its rounds, its kind -/
def stD (ns : List Int) (p : Nat) (v c m : Int) : D := .lst [.lst (ns.map .int), .int p, .int v, .int c, .int m]
/-- some state -/
def IsSt (d : D) : Prop := ∃ ns p v c m, d = stD ns p v c m
theorem isSt0 (ns : List Int) (p : Nat) (v c m : Int) : IsSt (.lst [.lst (ns.map .int), .int p, .int v, .int c, .int m]) := ⟨ns, p, v, c, m, rfl⟩
theorem isSt1 (ns : List Int) (p : Nat) (v c m : Int) : IsSt (.lst [.lst (ns.map .int), .int (p + 1), .int v, .int c, .int m]) := ⟨ns, p + 1, v, c, m, rfl⟩
def φ__law_new : FSpec := fun ss q _ => (∃ ns, ss = [.sh (.scr ns)] ∧ ∀ d os, IsSt d → q (.fr d) os)
theorem len__law_new : ∀ ss q e, φ__law_new ss q e → ss.length = 1 := by rintro ss q e ⟨ns, rfl, h⟩; rfl
def w__law_new : PW.WS :=
 (PW.sRetF (PW.nLst (PW.aCons (PW.wLk PW.fList (PW.rN 0)) (PW.aCons (PW.wC (.int 0)) (PW.aCons (PW.wC (.int 0)) (PW.aCons (PW.wC (.int 0)) (PW.aCons (PW.wC (.int 0)) PW.aNil)))))))

theorem hs__law_new : Does φ__law_new 1 w__law_new := by
  rintro ss q e ⟨ns, rfl, h⟩
  simp [w__law_new, PW.sSeq, PW.sPass, PW.sBreak, PW.sCont, PW.sNever, PW.sExpr, PW.sSet, PW.sNew, PW.sPut, PW.sApp, PW.sFld, PW.sAsg, PW.sRet, PW.sRetN, PW.sRetF, PW.sRetO, PW.sIf, PW.sFor, PW.gN, PW.gT, PW.gUn, PW.wC, PW.wV, PW.rN, PW.rE, PW.peek, PW.wUn, PW.wBin, PW.wLk, PW.wLk2, PW.wLkR, PW.wLkB, PW.tB, PW.tTr, PW.truth, PW.tAnd, PW.tOr, PW.tNot, PW.tYes, PW.wAnd, PW.wOr, PW.wNot, PW.wIf, PW.wChain, PW.aNil, PW.aCons, PW.wTup, PW.nLst, PW.nCat, PW.nRep, PW.wPart, PW.fSl, PW.wSl, PW.nSl, PW.wSlL, PW.fAdd, PW.fSub, PW.fMul, PW.fFdiv, PW.fMod, PW.fPow, PW.fShl, PW.fShr, PW.fAnd, PW.fOr, PW.fXor, PW.fNeg, PW.fLt, PW.fLe, PW.fGt, PW.fGe, PW.fEq, PW.fNe, PW.fIsNone, PW.fIsntNone, PW.isNon, PW.fIn, PW.fNotIn, PW.fIx, PW.fLen, PW.fInt, PW.fAbs, PW.fMax2, PW.fMin2, PW.fTuple, PW.fList, PW.fMaxL, PW.fMinL, PW.fIs, PW.isTy, PW.fIsO, PW.fFld, PW.fCon, PW.fTab, PW.fInTab, PW.fNInTab, PW.plain, PW.plainL, PW.eqv, PW.eqvL, PW.small, PW.putO, PW.free, PW.isBo_sh, PW.isBo_un, PW.isBo_ow, PW.isBo_rd, PW.wipe, PW.unwipe, PW.isLst, PW.putF, PW.iSeq, PW.iStr, PW.iRng1, PW.iRng2, PW.iRngD, PW.iEnum, PW.iZip, PW.items, PW.bNil, PW.bV, PW.bB, PW.bR, PW.kCall, PW.kMeth, PW.kMake, PW.oV, PW.oR, PW.oB, PW.isObj, PW.isCls, PW.wSh, PW.nFr, PW.wInO, PW.wNInO, PW.call, PW.lent, PW.lentB, PW.lentR, PW.lentOk, PW.back_nil, PW.back_v, PW.back_r, PW.back_b, PW.entry, PW.noX, PW.b2i, PW.nLc, PW.fDget, PW.fDin, PW.fDnin, PW.fDlen, PW.nDit, PW.nDic, PW.sDput, PW.putKv, PW.dKv, PW.fSortSet, PW.wMt, PW.fSIndex, PW.fSFind, PW.isStr, PW.isLst1, PW.nLc2, PW.elt1, PW.elt2, line_eq]
  exact h _ _ ⟨ns, 0, 0, 0, 0, rfl⟩
/-- a number is drawn -/
def φ__law_draw : FSpec := fun ss q _ => ∃ d many, IsSt d ∧ 0 < many ∧ many < 1073741824 ∧ ss = [.bo d, .sh (.int many)] ∧ ∀ d' r, IsSt d' → 0 ≤ r → r < many → q (.sh (.int r)) [.bo d', .sh (.int many)]
theorem len__law_draw : ∀ ss q e, φ__law_draw ss q e → ss.length = 2 := by rintro ss q e ⟨d, many, _, _, _, rfl, _⟩; rfl
def w__law_draw : PW.WS :=
 (PW.sSeq (PW.sIf (PW.tAnd (PW.tB (PW.wLkB PW.fEq (PW.rE (PW.wLk2 PW.fIx (PW.rN 0) (PW.wC (.int 3)))) (PW.rE (PW.wC (.int 0))))) (PW.tB (PW.wLkB PW.fLt (PW.rE (PW.wLk2 PW.fIx (PW.rN 0) (PW.wC (.int 1)))) (PW.rE (PW.wLk PW.fLen (PW.rE (PW.wLk2 PW.fIx (PW.rN 0) (PW.wC (.int 0)))))))))
 (PW.sSeq (PW.sSet 2 (PW.wLk2 PW.fIx (PW.rE (PW.wLk2 PW.fIx (PW.rN 0) (PW.wC (.int 0)))) (PW.wLk2 PW.fIx (PW.rN 0) (PW.wC (.int 1)))))
 (PW.sSeq (PW.sPut 0 (PW.wC (.int 1)) (PW.wBin PW.fAdd (PW.wLk2 PW.fIx (PW.rN 0) (PW.wC (.int 1))) (PW.wC (.int 1))))
 (PW.sIf (PW.tB (PW.wLkB PW.fGe (PW.rN 2) (PW.rE (PW.wBin PW.fPow (PW.wC (.int 10)) (PW.wC (.int 18))))))
 (PW.sSeq (PW.sPut 0 (PW.wC (.int 2)) (PW.wBin PW.fSub (PW.wV 2) (PW.wBin PW.fPow (PW.wC (.int 10)) (PW.wC (.int 18)))))
 (PW.sSeq (PW.sPut 0 (PW.wC (.int 3)) (PW.wC (.int 60)))
 (PW.sPut 0 (PW.wC (.int 4)) (PW.wC (.int 1)))))
 (PW.sSeq (PW.sPut 0 (PW.wC (.int 2)) (PW.wBin PW.fMod (PW.wLk PW.fInt (PW.rE (PW.wBin PW.fMul (PW.wV 2) (PW.wC (.int 48271))))) (PW.wC (.int 2147483647))))
 (PW.sSeq (PW.sPut 0 (PW.wC (.int 3)) (PW.wC (.int 5)))
 (PW.sPut 0 (PW.wC (.int 4)) (PW.wC (.int 0))))))))
 PW.sPass)
 (PW.sSeq (PW.sIf (PW.tB (PW.wLkB PW.fEq (PW.rE (PW.wLk2 PW.fIx (PW.rN 0) (PW.wC (.int 3)))) (PW.rE (PW.wC (.int 0)))))
 (PW.sRet (PW.wC (.int 0)))
 PW.sPass)
 (PW.sSeq (PW.sPut 0 (PW.wC (.int 3)) (PW.wBin PW.fSub (PW.wLk2 PW.fIx (PW.rN 0) (PW.wC (.int 3))) (PW.wC (.int 1))))
 (PW.sSeq (PW.sIf (PW.tB (PW.wLkB PW.fEq (PW.rE (PW.wLk2 PW.fIx (PW.rN 0) (PW.wC (.int 4)))) (PW.rE (PW.wC (.int 1)))))
 (PW.sSeq (PW.sSet 3 (PW.wBin PW.fMod (PW.wLk PW.fInt (PW.rE (PW.wLk2 PW.fIx (PW.rN 0) (PW.wC (.int 2))))) (PW.wV 1)))
 (PW.sSeq (PW.sPut 0 (PW.wC (.int 2)) (PW.wBin PW.fFdiv (PW.wLk2 PW.fIx (PW.rN 0) (PW.wC (.int 2))) (PW.wV 1)))
 (PW.sSeq (PW.sIf (PW.tB (PW.wLkB PW.fEq (PW.rE (PW.wLk2 PW.fIx (PW.rN 0) (PW.wC (.int 2)))) (PW.rE (PW.wC (.int 0)))))
 (PW.sPut 0 (PW.wC (.int 3)) (PW.wC (.int 0)))
 PW.sPass)
 (PW.sRet (PW.wV 3)))))
 PW.sPass)
 (PW.sSeq (PW.sPut 0 (PW.wC (.int 2)) (PW.wBin PW.fMod (PW.wLk PW.fInt (PW.rE (PW.wBin PW.fMul (PW.wLk2 PW.fIx (PW.rN 0) (PW.wC (.int 2))) (PW.wC (.int 69621))))) (PW.wC (.int 2147483629))))
 (PW.sRet (PW.wBin PW.fMod (PW.wLk PW.fInt (PW.rE (PW.wBin PW.fFdiv (PW.wLk2 PW.fIx (PW.rN 0) (PW.wC (.int 2))) (PW.wC (.int 8))))) (PW.wV 1))))))))

theorem hs__law_draw : Does φ__law_draw 4 w__law_draw := by
  rintro ss q e ⟨d, many, ⟨ns, p, v, c, m, rfl⟩, h0, h1, rfl, h⟩
  have hm : ∀ x : Int, 0 ≤ x % many ∧ x % many < many := fun x => ⟨Int.emod_nonneg _ (by omega), Int.emod_lt_of_pos _ h0⟩
  by_cases hc : c = 0
  · by_cases hp : p < ns.length
    · subst hc
      simp [w__law_draw, PW.sSeq, PW.sPass, PW.sBreak, PW.sCont, PW.sNever, PW.sExpr, PW.sSet, PW.sNew, PW.sPut, PW.sApp, PW.sFld, PW.sAsg, PW.sRet, PW.sRetN, PW.sRetF, PW.sRetO, PW.sIf, PW.sFor, PW.gN, PW.gT, PW.gUn, PW.wC, PW.wV, PW.rN, PW.rE, PW.peek, PW.wUn, PW.wBin, PW.wLk, PW.wLk2, PW.wLkR, PW.wLkB, PW.tB, PW.tTr, PW.truth, PW.tAnd, PW.tOr, PW.tNot, PW.tYes, PW.wAnd, PW.wOr, PW.wNot, PW.wIf, PW.wChain, PW.aNil, PW.aCons, PW.wTup, PW.nLst, PW.nCat, PW.nRep, PW.wPart, PW.fSl, PW.wSl, PW.nSl, PW.wSlL, PW.fAdd, PW.fSub, PW.fMul, PW.fFdiv, PW.fMod, PW.fPow, PW.fShl, PW.fShr, PW.fAnd, PW.fOr, PW.fXor, PW.fNeg, PW.fLt, PW.fLe, PW.fGt, PW.fGe, PW.fEq, PW.fNe, PW.fIsNone, PW.fIsntNone, PW.isNon, PW.fIn, PW.fNotIn, PW.fIx, PW.fLen, PW.fInt, PW.fAbs, PW.fMax2, PW.fMin2, PW.fTuple, PW.fList, PW.fMaxL, PW.fMinL, PW.fIs, PW.isTy, PW.fIsO, PW.fFld, PW.fCon, PW.fTab, PW.fInTab, PW.fNInTab, PW.plain, PW.plainL, PW.eqv, PW.eqvL, PW.small, PW.putO, PW.free, PW.isBo_sh, PW.isBo_un, PW.isBo_ow, PW.isBo_rd, PW.wipe, PW.unwipe, PW.isLst, PW.putF, PW.iSeq, PW.iStr, PW.iRng1, PW.iRng2, PW.iRngD, PW.iEnum, PW.iZip, PW.items, PW.bNil, PW.bV, PW.bB, PW.bR, PW.kCall, PW.kMeth, PW.kMake, PW.oV, PW.oR, PW.oB, PW.isObj, PW.isCls, PW.wSh, PW.nFr, PW.wInO, PW.wNInO, PW.call, PW.lent, PW.lentB, PW.lentR, PW.lentOk, PW.back_nil, PW.back_v, PW.back_r, PW.back_b, PW.entry, PW.noX, PW.b2i, PW.nLc, PW.fDget, PW.fDin, PW.fDnin, PW.fDlen, PW.nDit, PW.nDic, PW.sDput, PW.putKv, PW.dKv, PW.fSortSet, PW.wMt, PW.fSIndex, PW.fSFind, PW.isStr, PW.isLst1, PW.nLc2, PW.elt1, PW.elt2, PW.atI, PW.ixN, line_eq, stD, hp]
      split
      · refine ⟨h0, ⟨h0, h1⟩, ?_⟩
        split
        · exact h _ _ (isSt1 ..) (hm _).1 (hm _).2
        · exact h _ _ (isSt1 ..) (hm _).1 (hm _).2
      · exact ⟨h0, h _ _ (isSt1 ..) (hm _).1 (hm _).2⟩
    · subst hc
      simp [w__law_draw, PW.sSeq, PW.sPass, PW.sBreak, PW.sCont, PW.sNever, PW.sExpr, PW.sSet, PW.sNew, PW.sPut, PW.sApp, PW.sFld, PW.sAsg, PW.sRet, PW.sRetN, PW.sRetF, PW.sRetO, PW.sIf, PW.sFor, PW.gN, PW.gT, PW.gUn, PW.wC, PW.wV, PW.rN, PW.rE, PW.peek, PW.wUn, PW.wBin, PW.wLk, PW.wLk2, PW.wLkR, PW.wLkB, PW.tB, PW.tTr, PW.truth, PW.tAnd, PW.tOr, PW.tNot, PW.tYes, PW.wAnd, PW.wOr, PW.wNot, PW.wIf, PW.wChain, PW.aNil, PW.aCons, PW.wTup, PW.nLst, PW.nCat, PW.nRep, PW.wPart, PW.fSl, PW.wSl, PW.nSl, PW.wSlL, PW.fAdd, PW.fSub, PW.fMul, PW.fFdiv, PW.fMod, PW.fPow, PW.fShl, PW.fShr, PW.fAnd, PW.fOr, PW.fXor, PW.fNeg, PW.fLt, PW.fLe, PW.fGt, PW.fGe, PW.fEq, PW.fNe, PW.fIsNone, PW.fIsntNone, PW.isNon, PW.fIn, PW.fNotIn, PW.fIx, PW.fLen, PW.fInt, PW.fAbs, PW.fMax2, PW.fMin2, PW.fTuple, PW.fList, PW.fMaxL, PW.fMinL, PW.fIs, PW.isTy, PW.fIsO, PW.fFld, PW.fCon, PW.fTab, PW.fInTab, PW.fNInTab, PW.plain, PW.plainL, PW.eqv, PW.eqvL, PW.small, PW.putO, PW.free, PW.isBo_sh, PW.isBo_un, PW.isBo_ow, PW.isBo_rd, PW.wipe, PW.unwipe, PW.isLst, PW.putF, PW.iSeq, PW.iStr, PW.iRng1, PW.iRng2, PW.iRngD, PW.iEnum, PW.iZip, PW.items, PW.bNil, PW.bV, PW.bB, PW.bR, PW.kCall, PW.kMeth, PW.kMake, PW.oV, PW.oR, PW.oB, PW.isObj, PW.isCls, PW.wSh, PW.nFr, PW.wInO, PW.wNInO, PW.call, PW.lent, PW.lentB, PW.lentR, PW.lentOk, PW.back_nil, PW.back_v, PW.back_r, PW.back_b, PW.entry, PW.noX, PW.b2i, PW.nLc, PW.fDget, PW.fDin, PW.fDnin, PW.fDlen, PW.nDit, PW.nDic, PW.sDput, PW.putKv, PW.dKv, PW.fSortSet, PW.wMt, PW.fSIndex, PW.fSFind, PW.isStr, PW.isLst1, PW.nLc2, PW.elt1, PW.elt2, PW.atI, PW.ixN, line_eq, stD, hp]
      exact h _ _ (isSt0 ..) (Int.le_refl _) h0
  · by_cases h1' : m = 1
    · subst h1'
      simp [w__law_draw, PW.sSeq, PW.sPass, PW.sBreak, PW.sCont, PW.sNever, PW.sExpr, PW.sSet, PW.sNew, PW.sPut, PW.sApp, PW.sFld, PW.sAsg, PW.sRet, PW.sRetN, PW.sRetF, PW.sRetO, PW.sIf, PW.sFor, PW.gN, PW.gT, PW.gUn, PW.wC, PW.wV, PW.rN, PW.rE, PW.peek, PW.wUn, PW.wBin, PW.wLk, PW.wLk2, PW.wLkR, PW.wLkB, PW.tB, PW.tTr, PW.truth, PW.tAnd, PW.tOr, PW.tNot, PW.tYes, PW.wAnd, PW.wOr, PW.wNot, PW.wIf, PW.wChain, PW.aNil, PW.aCons, PW.wTup, PW.nLst, PW.nCat, PW.nRep, PW.wPart, PW.fSl, PW.wSl, PW.nSl, PW.wSlL, PW.fAdd, PW.fSub, PW.fMul, PW.fFdiv, PW.fMod, PW.fPow, PW.fShl, PW.fShr, PW.fAnd, PW.fOr, PW.fXor, PW.fNeg, PW.fLt, PW.fLe, PW.fGt, PW.fGe, PW.fEq, PW.fNe, PW.fIsNone, PW.fIsntNone, PW.isNon, PW.fIn, PW.fNotIn, PW.fIx, PW.fLen, PW.fInt, PW.fAbs, PW.fMax2, PW.fMin2, PW.fTuple, PW.fList, PW.fMaxL, PW.fMinL, PW.fIs, PW.isTy, PW.fIsO, PW.fFld, PW.fCon, PW.fTab, PW.fInTab, PW.fNInTab, PW.plain, PW.plainL, PW.eqv, PW.eqvL, PW.small, PW.putO, PW.free, PW.isBo_sh, PW.isBo_un, PW.isBo_ow, PW.isBo_rd, PW.wipe, PW.unwipe, PW.isLst, PW.putF, PW.iSeq, PW.iStr, PW.iRng1, PW.iRng2, PW.iRngD, PW.iEnum, PW.iZip, PW.items, PW.bNil, PW.bV, PW.bB, PW.bR, PW.kCall, PW.kMeth, PW.kMake, PW.oV, PW.oR, PW.oB, PW.isObj, PW.isCls, PW.wSh, PW.nFr, PW.wInO, PW.wNInO, PW.call, PW.lent, PW.lentB, PW.lentR, PW.lentOk, PW.back_nil, PW.back_v, PW.back_r, PW.back_b, PW.entry, PW.noX, PW.b2i, PW.nLc, PW.fDget, PW.fDin, PW.fDnin, PW.fDlen, PW.nDit, PW.nDic, PW.sDput, PW.putKv, PW.dKv, PW.fSortSet, PW.wMt, PW.fSIndex, PW.fSFind, PW.isStr, PW.isLst1, PW.nLc2, PW.elt1, PW.elt2, PW.atI, PW.ixN, line_eq, stD, hc]
      refine ⟨h0, ⟨h0, h1⟩, ?_⟩
      split
      · exact h _ _ (isSt0 ..) (hm _).1 (hm _).2
      · exact h _ _ (isSt0 ..) (hm _).1 (hm _).2
    · simp [w__law_draw, PW.sSeq, PW.sPass, PW.sBreak, PW.sCont, PW.sNever, PW.sExpr, PW.sSet, PW.sNew, PW.sPut, PW.sApp, PW.sFld, PW.sAsg, PW.sRet, PW.sRetN, PW.sRetF, PW.sRetO, PW.sIf, PW.sFor, PW.gN, PW.gT, PW.gUn, PW.wC, PW.wV, PW.rN, PW.rE, PW.peek, PW.wUn, PW.wBin, PW.wLk, PW.wLk2, PW.wLkR, PW.wLkB, PW.tB, PW.tTr, PW.truth, PW.tAnd, PW.tOr, PW.tNot, PW.tYes, PW.wAnd, PW.wOr, PW.wNot, PW.wIf, PW.wChain, PW.aNil, PW.aCons, PW.wTup, PW.nLst, PW.nCat, PW.nRep, PW.wPart, PW.fSl, PW.wSl, PW.nSl, PW.wSlL, PW.fAdd, PW.fSub, PW.fMul, PW.fFdiv, PW.fMod, PW.fPow, PW.fShl, PW.fShr, PW.fAnd, PW.fOr, PW.fXor, PW.fNeg, PW.fLt, PW.fLe, PW.fGt, PW.fGe, PW.fEq, PW.fNe, PW.fIsNone, PW.fIsntNone, PW.isNon, PW.fIn, PW.fNotIn, PW.fIx, PW.fLen, PW.fInt, PW.fAbs, PW.fMax2, PW.fMin2, PW.fTuple, PW.fList, PW.fMaxL, PW.fMinL, PW.fIs, PW.isTy, PW.fIsO, PW.fFld, PW.fCon, PW.fTab, PW.fInTab, PW.fNInTab, PW.plain, PW.plainL, PW.eqv, PW.eqvL, PW.small, PW.putO, PW.free, PW.isBo_sh, PW.isBo_un, PW.isBo_ow, PW.isBo_rd, PW.wipe, PW.unwipe, PW.isLst, PW.putF, PW.iSeq, PW.iStr, PW.iRng1, PW.iRng2, PW.iRngD, PW.iEnum, PW.iZip, PW.items, PW.bNil, PW.bV, PW.bB, PW.bR, PW.kCall, PW.kMeth, PW.kMake, PW.oV, PW.oR, PW.oB, PW.isObj, PW.isCls, PW.wSh, PW.nFr, PW.wInO, PW.wNInO, PW.call, PW.lent, PW.lentB, PW.lentR, PW.lentOk, PW.back_nil, PW.back_v, PW.back_r, PW.back_b, PW.entry, PW.noX, PW.b2i, PW.nLc, PW.fDget, PW.fDin, PW.fDnin, PW.fDlen, PW.nDit, PW.nDic, PW.sDput, PW.putKv, PW.dKv, PW.fSortSet, PW.wMt, PW.fSIndex, PW.fSFind, PW.isStr, PW.isLst1, PW.nLc2, PW.elt1, PW.elt2, PW.atI, PW.ixN, line_eq, stD, hc, h1']
      exact ⟨h0, h _ _ (isSt0 ..) (hm _).1 (hm _).2⟩
end PW
end

section
set_option linter.all false
set_option maxHeartbeats 4000000
set_option maxRecDepth 100000
/-! Q2: letters, words. -/
namespace PW
/-- an alphabet -/
structure Lets (s : List Nat) : Prop where
  ne : 1 ≤ s.length
  le : s.length ≤ 3
  small : ∀ c ∈ s, 97 ≤ c ∧ c ≤ 122
  asc : s.Pairwise (· < ·)
/-- a word over letters -/
def Over (s w : List Nat) : Prop := ∀ c ∈ w, c ∈ s
theorem small_at {i : Int} (h0 : 0 ≤ i) (h : i < 26) : atI [97, 98, 99, 100, 101, 102, 103, 104, 105, 106, 107, 108, 109, 110, 111, 112, 113, 114, 115, 116, 117, 118, 119, 120, 121, 122] i = some (97 + i.toNat) := by
  rw [atI_of h0]
  obtain ⟨n, rfl⟩ := Int.eq_ofNat_of_zero_le h0
  have hn : n < 26 := by omega
  have e : [97, 98, 99, 100, 101, 102, 103, 104, 105, 106, 107, 108, 109, 110, 111, 112, 113, 114, 115, 116, 117, 118, 119, 120, 121, 122] = (List.range 26).map (97 + ·) := by decide
  rw [e]
  simp [hn]
def φ__law_wide : FSpec := fun ss q _ => ∃ d, IsSt d ∧ ss = [.bo d, .sh (.int 3)] ∧ ∀ d' s, IsSt d' → Lets s → q (.sh (.str s)) [.bo d', .sh (.int 3)]
theorem len__law_wide : ∀ ss q e, φ__law_wide ss q e → ss.length = 2 := by rintro ss q e ⟨d, _, rfl, _⟩; rfl
def w__law_wide : PW.WS :=
 (PW.sSeq (PW.sSet 2 (PW.wC (.str [97, 98, 99, 100, 101, 102, 103, 104, 105, 106, 107, 108, 109, 110, 111, 112, 113, 114, 115, 116, 117, 118, 119, 120, 121, 122])))
 (PW.sSeq (PW.sSet 3 (PW.wSh (PW.kCall φ__law_draw [] (PW.bB 0 (PW.bV (PW.wC (.int 26)) PW.bNil)))))
 (PW.sSeq (PW.sSet 4 (PW.wLk2 PW.fIx (PW.rN 2) (PW.wV 3)))
 (PW.sSeq (PW.sFor (PW.iRng1 (PW.wSh (PW.kCall φ__law_draw [] (PW.bB 0 (PW.bV (PW.wV 1) PW.bNil))))) (PW.gN 5)
 (PW.sIf (PW.tB (PW.wLkB PW.fLt (PW.rN 3) (PW.rE (PW.wC (.int 25)))))
 (PW.sSeq (PW.sSet 3 (PW.wBin PW.fAdd (PW.wBin PW.fAdd (PW.wV 3) (PW.wC (.int 1))) (PW.wSh (PW.kCall φ__law_draw [] (PW.bB 0 (PW.bV (PW.wBin PW.fSub (PW.wC (.int 25)) (PW.wV 3)) PW.bNil))))))
 (PW.sSet 4 (PW.wBin PW.fAdd (PW.wV 4) (PW.wLk2 PW.fIx (PW.rN 2) (PW.wV 3)))))
 PW.sPass))
 (PW.sRet (PW.wV 4))))))

theorem hs__law_wide : Does φ__law_wide 6 w__law_wide := by
  rintro ss q e ⟨d, hd, rfl, h⟩
  simp [w__law_wide, PW.sSeq, PW.sPass, PW.sBreak, PW.sCont, PW.sNever, PW.sExpr, PW.sSet, PW.sNew, PW.sPut, PW.sApp, PW.sFld, PW.sAsg, PW.sRet, PW.sRetN, PW.sRetF, PW.sRetO, PW.sIf, PW.sFor, PW.gN, PW.gT, PW.gUn, PW.wC, PW.wV, PW.rN, PW.rE, PW.peek, PW.wUn, PW.wBin, PW.wLk, PW.wLk2, PW.wLkR, PW.wLkB, PW.tB, PW.tTr, PW.truth, PW.tAnd, PW.tOr, PW.tNot, PW.tYes, PW.wAnd, PW.wOr, PW.wNot, PW.wIf, PW.wChain, PW.aNil, PW.aCons, PW.wTup, PW.nLst, PW.nCat, PW.nRep, PW.wPart, PW.fSl, PW.wSl, PW.nSl, PW.wSlL, PW.fAdd, PW.fSub, PW.fMul, PW.fFdiv, PW.fMod, PW.fPow, PW.fShl, PW.fShr, PW.fAnd, PW.fOr, PW.fXor, PW.fNeg, PW.fLt, PW.fLe, PW.fGt, PW.fGe, PW.fEq, PW.fNe, PW.fIsNone, PW.fIsntNone, PW.isNon, PW.fIn, PW.fNotIn, PW.fIx, PW.fLen, PW.fInt, PW.fAbs, PW.fMax2, PW.fMin2, PW.fTuple, PW.fList, PW.fMaxL, PW.fMinL, PW.fIs, PW.isTy, PW.fIsO, PW.fFld, PW.fCon, PW.fTab, PW.fInTab, PW.fNInTab, PW.plain, PW.plainL, PW.eqv, PW.eqvL, PW.small, PW.putO, PW.free, PW.isBo_sh, PW.isBo_un, PW.isBo_ow, PW.isBo_rd, PW.wipe, PW.unwipe, PW.isLst, PW.putF, PW.iSeq, PW.iStr, PW.iRng1, PW.iRng2, PW.iRngD, PW.iEnum, PW.iZip, PW.items, PW.bNil, PW.bV, PW.bB, PW.bR, PW.kCall, PW.kMeth, PW.kMake, PW.oV, PW.oR, PW.oB, PW.isObj, PW.isCls, PW.wSh, PW.nFr, PW.wInO, PW.wNInO, PW.call, PW.lent, PW.lentB, PW.lentR, PW.lentOk, PW.back_nil, PW.back_v, PW.back_r, PW.back_b, PW.entry, PW.noX, PW.b2i, PW.nLc, PW.fDget, PW.fDin, PW.fDnin, PW.fDlen, PW.nDit, PW.nDic, PW.sDput, PW.putKv, PW.dKv, PW.fSortSet, PW.wMt, PW.fSIndex, PW.fSFind, PW.isStr, PW.isLst1, PW.nLc2, PW.elt1, PW.elt2, line_eq]
  refine ⟨d, 26, hd, by omega, by omega, rfl, fun d1 r1 hd1 h0 h1 => ?_⟩
  simp [PW.sSeq, PW.sPass, PW.sBreak, PW.sCont, PW.sNever, PW.sExpr, PW.sSet, PW.sNew, PW.sPut, PW.sApp, PW.sFld, PW.sAsg, PW.sRet, PW.sRetN, PW.sRetF, PW.sRetO, PW.sIf, PW.sFor, PW.gN, PW.gT, PW.gUn, PW.wC, PW.wV, PW.rN, PW.rE, PW.peek, PW.wUn, PW.wBin, PW.wLk, PW.wLk2, PW.wLkR, PW.wLkB, PW.tB, PW.tTr, PW.truth, PW.tAnd, PW.tOr, PW.tNot, PW.tYes, PW.wAnd, PW.wOr, PW.wNot, PW.wIf, PW.wChain, PW.aNil, PW.aCons, PW.wTup, PW.nLst, PW.nCat, PW.nRep, PW.wPart, PW.fSl, PW.wSl, PW.nSl, PW.wSlL, PW.fAdd, PW.fSub, PW.fMul, PW.fFdiv, PW.fMod, PW.fPow, PW.fShl, PW.fShr, PW.fAnd, PW.fOr, PW.fXor, PW.fNeg, PW.fLt, PW.fLe, PW.fGt, PW.fGe, PW.fEq, PW.fNe, PW.fIsNone, PW.fIsntNone, PW.isNon, PW.fIn, PW.fNotIn, PW.fIx, PW.fLen, PW.fInt, PW.fAbs, PW.fMax2, PW.fMin2, PW.fTuple, PW.fList, PW.fMaxL, PW.fMinL, PW.fIs, PW.isTy, PW.fIsO, PW.fFld, PW.fCon, PW.fTab, PW.fInTab, PW.fNInTab, PW.plain, PW.plainL, PW.eqv, PW.eqvL, PW.small, PW.putO, PW.free, PW.isBo_sh, PW.isBo_un, PW.isBo_ow, PW.isBo_rd, PW.wipe, PW.unwipe, PW.isLst, PW.putF, PW.iSeq, PW.iStr, PW.iRng1, PW.iRng2, PW.iRngD, PW.iEnum, PW.iZip, PW.items, PW.bNil, PW.bV, PW.bB, PW.bR, PW.kCall, PW.kMeth, PW.kMake, PW.oV, PW.oR, PW.oB, PW.isObj, PW.isCls, PW.wSh, PW.nFr, PW.wInO, PW.wNInO, PW.call, PW.lent, PW.lentB, PW.lentR, PW.lentOk, PW.back_nil, PW.back_v, PW.back_r, PW.back_b, PW.entry, PW.noX, PW.b2i, PW.nLc, PW.fDget, PW.fDin, PW.fDnin, PW.fDlen, PW.nDit, PW.nDic, PW.sDput, PW.putKv, PW.dKv, PW.fSortSet, PW.wMt, PW.fSIndex, PW.fSFind, PW.isStr, PW.isLst1, PW.nLc2, PW.elt1, PW.elt2, line_eq]
  rw [small_at h0 h1]
  simp [PW.sSeq, PW.sPass, PW.sBreak, PW.sCont, PW.sNever, PW.sExpr, PW.sSet, PW.sNew, PW.sPut, PW.sApp, PW.sFld, PW.sAsg, PW.sRet, PW.sRetN, PW.sRetF, PW.sRetO, PW.sIf, PW.sFor, PW.gN, PW.gT, PW.gUn, PW.wC, PW.wV, PW.rN, PW.rE, PW.peek, PW.wUn, PW.wBin, PW.wLk, PW.wLk2, PW.wLkR, PW.wLkB, PW.tB, PW.tTr, PW.truth, PW.tAnd, PW.tOr, PW.tNot, PW.tYes, PW.wAnd, PW.wOr, PW.wNot, PW.wIf, PW.wChain, PW.aNil, PW.aCons, PW.wTup, PW.nLst, PW.nCat, PW.nRep, PW.wPart, PW.fSl, PW.wSl, PW.nSl, PW.wSlL, PW.fAdd, PW.fSub, PW.fMul, PW.fFdiv, PW.fMod, PW.fPow, PW.fShl, PW.fShr, PW.fAnd, PW.fOr, PW.fXor, PW.fNeg, PW.fLt, PW.fLe, PW.fGt, PW.fGe, PW.fEq, PW.fNe, PW.fIsNone, PW.fIsntNone, PW.isNon, PW.fIn, PW.fNotIn, PW.fIx, PW.fLen, PW.fInt, PW.fAbs, PW.fMax2, PW.fMin2, PW.fTuple, PW.fList, PW.fMaxL, PW.fMinL, PW.fIs, PW.isTy, PW.fIsO, PW.fFld, PW.fCon, PW.fTab, PW.fInTab, PW.fNInTab, PW.plain, PW.plainL, PW.eqv, PW.eqvL, PW.small, PW.putO, PW.free, PW.isBo_sh, PW.isBo_un, PW.isBo_ow, PW.isBo_rd, PW.wipe, PW.unwipe, PW.isLst, PW.putF, PW.iSeq, PW.iStr, PW.iRng1, PW.iRng2, PW.iRngD, PW.iEnum, PW.iZip, PW.items, PW.bNil, PW.bV, PW.bB, PW.bR, PW.kCall, PW.kMeth, PW.kMake, PW.oV, PW.oR, PW.oB, PW.isObj, PW.isCls, PW.wSh, PW.nFr, PW.wInO, PW.wNInO, PW.call, PW.lent, PW.lentB, PW.lentR, PW.lentOk, PW.back_nil, PW.back_v, PW.back_r, PW.back_b, PW.entry, PW.noX, PW.b2i, PW.nLc, PW.fDget, PW.fDin, PW.fDnin, PW.fDlen, PW.nDit, PW.nDic, PW.sDput, PW.putKv, PW.dKv, PW.fSortSet, PW.wMt, PW.fSIndex, PW.fSFind, PW.isStr, PW.isLst1, PW.nLc2, PW.elt1, PW.elt2, line_eq]
  refine ⟨d1, 3, hd1, by omega, by omega, rfl, fun d2 r2 hd2 h2 h3 => ?_⟩
  simp [PW.sSeq, PW.sPass, PW.sBreak, PW.sCont, PW.sNever, PW.sExpr, PW.sSet, PW.sNew, PW.sPut, PW.sApp, PW.sFld, PW.sAsg, PW.sRet, PW.sRetN, PW.sRetF, PW.sRetO, PW.sIf, PW.sFor, PW.gN, PW.gT, PW.gUn, PW.wC, PW.wV, PW.rN, PW.rE, PW.peek, PW.wUn, PW.wBin, PW.wLk, PW.wLk2, PW.wLkR, PW.wLkB, PW.tB, PW.tTr, PW.truth, PW.tAnd, PW.tOr, PW.tNot, PW.tYes, PW.wAnd, PW.wOr, PW.wNot, PW.wIf, PW.wChain, PW.aNil, PW.aCons, PW.wTup, PW.nLst, PW.nCat, PW.nRep, PW.wPart, PW.fSl, PW.wSl, PW.nSl, PW.wSlL, PW.fAdd, PW.fSub, PW.fMul, PW.fFdiv, PW.fMod, PW.fPow, PW.fShl, PW.fShr, PW.fAnd, PW.fOr, PW.fXor, PW.fNeg, PW.fLt, PW.fLe, PW.fGt, PW.fGe, PW.fEq, PW.fNe, PW.fIsNone, PW.fIsntNone, PW.isNon, PW.fIn, PW.fNotIn, PW.fIx, PW.fLen, PW.fInt, PW.fAbs, PW.fMax2, PW.fMin2, PW.fTuple, PW.fList, PW.fMaxL, PW.fMinL, PW.fIs, PW.isTy, PW.fIsO, PW.fFld, PW.fCon, PW.fTab, PW.fInTab, PW.fNInTab, PW.plain, PW.plainL, PW.eqv, PW.eqvL, PW.small, PW.putO, PW.free, PW.isBo_sh, PW.isBo_un, PW.isBo_ow, PW.isBo_rd, PW.wipe, PW.unwipe, PW.isLst, PW.putF, PW.iSeq, PW.iStr, PW.iRng1, PW.iRng2, PW.iRngD, PW.iEnum, PW.iZip, PW.items, PW.bNil, PW.bV, PW.bB, PW.bR, PW.kCall, PW.kMeth, PW.kMake, PW.oV, PW.oR, PW.oB, PW.isObj, PW.isCls, PW.wSh, PW.nFr, PW.wInO, PW.wNInO, PW.call, PW.lent, PW.lentB, PW.lentR, PW.lentOk, PW.back_nil, PW.back_v, PW.back_r, PW.back_b, PW.entry, PW.noX, PW.b2i, PW.nLc, PW.fDget, PW.fDin, PW.fDnin, PW.fDlen, PW.nDit, PW.nDic, PW.sDput, PW.putKv, PW.dKv, PW.fSortSet, PW.wMt, PW.fSIndex, PW.fSFind, PW.isStr, PW.isLst1, PW.nLc2, PW.elt1, PW.elt2, line_eq]
  refine ⟨by unfold rngB; omega, ?_⟩
  refine loop_ix _ (fun i ρ => ∃ (d : D) (at_ : Int) (s : List Nat) (kk : Sl), IsSt d ∧ 0 ≤ at_ ∧ at_ ≤ 25 ∧ 1 ≤ s.length ∧ s.length ≤ i + 1 ∧ (∀ c ∈ s, 97 ≤ c ∧ c ≤ 97 + at_.toNat) ∧ s.Pairwise (· < ·) ∧ isBo kk = false ∧ ρ = [.bo d, .sh (.int 3), .sh (.str [97, 98, 99, 100, 101, 102, 103, 104, 105, 106, 107, 108, 109, 110, 111, 112, 113, 114, 115, 116, 117, 118, 119, 120, 121, 122]), .sh (.int at_), .sh (.str s), kk])
    ⟨d2, r1, [97 + r1.toNat], .un, hd2, h0, by omega, by simp, by simp, by simp, by simp, rfl, rfl⟩ ?_ ?_
  · rintro i x ρ K hx ⟨d, at_, s, kk, hd, ha0, ha1, hs1, hs2, hs3, hs4, hk, rfl⟩ hK
    obtain ⟨hi, rfl⟩ := rng_some hx
    simp [PW.sSeq, PW.sPass, PW.sBreak, PW.sCont, PW.sNever, PW.sExpr, PW.sSet, PW.sNew, PW.sPut, PW.sApp, PW.sFld, PW.sAsg, PW.sRet, PW.sRetN, PW.sRetF, PW.sRetO, PW.sIf, PW.sFor, PW.gN, PW.gT, PW.gUn, PW.wC, PW.wV, PW.rN, PW.rE, PW.peek, PW.wUn, PW.wBin, PW.wLk, PW.wLk2, PW.wLkR, PW.wLkB, PW.tB, PW.tTr, PW.truth, PW.tAnd, PW.tOr, PW.tNot, PW.tYes, PW.wAnd, PW.wOr, PW.wNot, PW.wIf, PW.wChain, PW.aNil, PW.aCons, PW.wTup, PW.nLst, PW.nCat, PW.nRep, PW.wPart, PW.fSl, PW.wSl, PW.nSl, PW.wSlL, PW.fAdd, PW.fSub, PW.fMul, PW.fFdiv, PW.fMod, PW.fPow, PW.fShl, PW.fShr, PW.fAnd, PW.fOr, PW.fXor, PW.fNeg, PW.fLt, PW.fLe, PW.fGt, PW.fGe, PW.fEq, PW.fNe, PW.fIsNone, PW.fIsntNone, PW.isNon, PW.fIn, PW.fNotIn, PW.fIx, PW.fLen, PW.fInt, PW.fAbs, PW.fMax2, PW.fMin2, PW.fTuple, PW.fList, PW.fMaxL, PW.fMinL, PW.fIs, PW.isTy, PW.fIsO, PW.fFld, PW.fCon, PW.fTab, PW.fInTab, PW.fNInTab, PW.plain, PW.plainL, PW.eqv, PW.eqvL, PW.small, PW.putO, PW.free, PW.isBo_sh, PW.isBo_un, PW.isBo_ow, PW.isBo_rd, PW.wipe, PW.unwipe, PW.isLst, PW.putF, PW.iSeq, PW.iStr, PW.iRng1, PW.iRng2, PW.iRngD, PW.iEnum, PW.iZip, PW.items, PW.bNil, PW.bV, PW.bB, PW.bR, PW.kCall, PW.kMeth, PW.kMake, PW.oV, PW.oR, PW.oB, PW.isObj, PW.isCls, PW.wSh, PW.nFr, PW.wInO, PW.wNInO, PW.call, PW.lent, PW.lentB, PW.lentR, PW.lentOk, PW.back_nil, PW.back_v, PW.back_r, PW.back_b, PW.entry, PW.noX, PW.b2i, PW.nLc, PW.fDget, PW.fDin, PW.fDnin, PW.fDlen, PW.nDit, PW.nDic, PW.sDput, PW.putKv, PW.dKv, PW.fSortSet, PW.wMt, PW.fSIndex, PW.fSFind, PW.isStr, PW.isLst1, PW.nLc2, PW.elt1, PW.elt2, line_eq, hk]
    by_cases hat : at_ < 25
    · simp [PW.sSeq, PW.sPass, PW.sBreak, PW.sCont, PW.sNever, PW.sExpr, PW.sSet, PW.sNew, PW.sPut, PW.sApp, PW.sFld, PW.sAsg, PW.sRet, PW.sRetN, PW.sRetF, PW.sRetO, PW.sIf, PW.sFor, PW.gN, PW.gT, PW.gUn, PW.wC, PW.wV, PW.rN, PW.rE, PW.peek, PW.wUn, PW.wBin, PW.wLk, PW.wLk2, PW.wLkR, PW.wLkB, PW.tB, PW.tTr, PW.truth, PW.tAnd, PW.tOr, PW.tNot, PW.tYes, PW.wAnd, PW.wOr, PW.wNot, PW.wIf, PW.wChain, PW.aNil, PW.aCons, PW.wTup, PW.nLst, PW.nCat, PW.nRep, PW.wPart, PW.fSl, PW.wSl, PW.nSl, PW.wSlL, PW.fAdd, PW.fSub, PW.fMul, PW.fFdiv, PW.fMod, PW.fPow, PW.fShl, PW.fShr, PW.fAnd, PW.fOr, PW.fXor, PW.fNeg, PW.fLt, PW.fLe, PW.fGt, PW.fGe, PW.fEq, PW.fNe, PW.fIsNone, PW.fIsntNone, PW.isNon, PW.fIn, PW.fNotIn, PW.fIx, PW.fLen, PW.fInt, PW.fAbs, PW.fMax2, PW.fMin2, PW.fTuple, PW.fList, PW.fMaxL, PW.fMinL, PW.fIs, PW.isTy, PW.fIsO, PW.fFld, PW.fCon, PW.fTab, PW.fInTab, PW.fNInTab, PW.plain, PW.plainL, PW.eqv, PW.eqvL, PW.small, PW.putO, PW.free, PW.isBo_sh, PW.isBo_un, PW.isBo_ow, PW.isBo_rd, PW.wipe, PW.unwipe, PW.isLst, PW.putF, PW.iSeq, PW.iStr, PW.iRng1, PW.iRng2, PW.iRngD, PW.iEnum, PW.iZip, PW.items, PW.bNil, PW.bV, PW.bB, PW.bR, PW.kCall, PW.kMeth, PW.kMake, PW.oV, PW.oR, PW.oB, PW.isObj, PW.isCls, PW.wSh, PW.nFr, PW.wInO, PW.wNInO, PW.call, PW.lent, PW.lentB, PW.lentR, PW.lentOk, PW.back_nil, PW.back_v, PW.back_r, PW.back_b, PW.entry, PW.noX, PW.b2i, PW.nLc, PW.fDget, PW.fDin, PW.fDnin, PW.fDlen, PW.nDit, PW.nDic, PW.sDput, PW.putKv, PW.dKv, PW.fSortSet, PW.wMt, PW.fSIndex, PW.fSFind, PW.isStr, PW.isLst1, PW.nLc2, PW.elt1, PW.elt2, line_eq, hat]
      refine ⟨d, 25 - at_, hd, by omega, by omega, rfl, fun d3 r3 hd3 h4 h5 => ?_⟩
      simp [PW.sSeq, PW.sPass, PW.sBreak, PW.sCont, PW.sNever, PW.sExpr, PW.sSet, PW.sNew, PW.sPut, PW.sApp, PW.sFld, PW.sAsg, PW.sRet, PW.sRetN, PW.sRetF, PW.sRetO, PW.sIf, PW.sFor, PW.gN, PW.gT, PW.gUn, PW.wC, PW.wV, PW.rN, PW.rE, PW.peek, PW.wUn, PW.wBin, PW.wLk, PW.wLk2, PW.wLkR, PW.wLkB, PW.tB, PW.tTr, PW.truth, PW.tAnd, PW.tOr, PW.tNot, PW.tYes, PW.wAnd, PW.wOr, PW.wNot, PW.wIf, PW.wChain, PW.aNil, PW.aCons, PW.wTup, PW.nLst, PW.nCat, PW.nRep, PW.wPart, PW.fSl, PW.wSl, PW.nSl, PW.wSlL, PW.fAdd, PW.fSub, PW.fMul, PW.fFdiv, PW.fMod, PW.fPow, PW.fShl, PW.fShr, PW.fAnd, PW.fOr, PW.fXor, PW.fNeg, PW.fLt, PW.fLe, PW.fGt, PW.fGe, PW.fEq, PW.fNe, PW.fIsNone, PW.fIsntNone, PW.isNon, PW.fIn, PW.fNotIn, PW.fIx, PW.fLen, PW.fInt, PW.fAbs, PW.fMax2, PW.fMin2, PW.fTuple, PW.fList, PW.fMaxL, PW.fMinL, PW.fIs, PW.isTy, PW.fIsO, PW.fFld, PW.fCon, PW.fTab, PW.fInTab, PW.fNInTab, PW.plain, PW.plainL, PW.eqv, PW.eqvL, PW.small, PW.putO, PW.free, PW.isBo_sh, PW.isBo_un, PW.isBo_ow, PW.isBo_rd, PW.wipe, PW.unwipe, PW.isLst, PW.putF, PW.iSeq, PW.iStr, PW.iRng1, PW.iRng2, PW.iRngD, PW.iEnum, PW.iZip, PW.items, PW.bNil, PW.bV, PW.bB, PW.bR, PW.kCall, PW.kMeth, PW.kMake, PW.oV, PW.oR, PW.oB, PW.isObj, PW.isCls, PW.wSh, PW.nFr, PW.wInO, PW.wNInO, PW.call, PW.lent, PW.lentB, PW.lentR, PW.lentOk, PW.back_nil, PW.back_v, PW.back_r, PW.back_b, PW.entry, PW.noX, PW.b2i, PW.nLc, PW.fDget, PW.fDin, PW.fDnin, PW.fDlen, PW.nDit, PW.nDic, PW.sDput, PW.putKv, PW.dKv, PW.fSortSet, PW.wMt, PW.fSIndex, PW.fSFind, PW.isStr, PW.isLst1, PW.nLc2, PW.elt1, PW.elt2, line_eq]
      rw [small_at (by omega) (by omega)]
      simp [PW.sSeq, PW.sPass, PW.sBreak, PW.sCont, PW.sNever, PW.sExpr, PW.sSet, PW.sNew, PW.sPut, PW.sApp, PW.sFld, PW.sAsg, PW.sRet, PW.sRetN, PW.sRetF, PW.sRetO, PW.sIf, PW.sFor, PW.gN, PW.gT, PW.gUn, PW.wC, PW.wV, PW.rN, PW.rE, PW.peek, PW.wUn, PW.wBin, PW.wLk, PW.wLk2, PW.wLkR, PW.wLkB, PW.tB, PW.tTr, PW.truth, PW.tAnd, PW.tOr, PW.tNot, PW.tYes, PW.wAnd, PW.wOr, PW.wNot, PW.wIf, PW.wChain, PW.aNil, PW.aCons, PW.wTup, PW.nLst, PW.nCat, PW.nRep, PW.wPart, PW.fSl, PW.wSl, PW.nSl, PW.wSlL, PW.fAdd, PW.fSub, PW.fMul, PW.fFdiv, PW.fMod, PW.fPow, PW.fShl, PW.fShr, PW.fAnd, PW.fOr, PW.fXor, PW.fNeg, PW.fLt, PW.fLe, PW.fGt, PW.fGe, PW.fEq, PW.fNe, PW.fIsNone, PW.fIsntNone, PW.isNon, PW.fIn, PW.fNotIn, PW.fIx, PW.fLen, PW.fInt, PW.fAbs, PW.fMax2, PW.fMin2, PW.fTuple, PW.fList, PW.fMaxL, PW.fMinL, PW.fIs, PW.isTy, PW.fIsO, PW.fFld, PW.fCon, PW.fTab, PW.fInTab, PW.fNInTab, PW.plain, PW.plainL, PW.eqv, PW.eqvL, PW.small, PW.putO, PW.free, PW.isBo_sh, PW.isBo_un, PW.isBo_ow, PW.isBo_rd, PW.wipe, PW.unwipe, PW.isLst, PW.putF, PW.iSeq, PW.iStr, PW.iRng1, PW.iRng2, PW.iRngD, PW.iEnum, PW.iZip, PW.items, PW.bNil, PW.bV, PW.bB, PW.bR, PW.kCall, PW.kMeth, PW.kMake, PW.oV, PW.oR, PW.oB, PW.isObj, PW.isCls, PW.wSh, PW.nFr, PW.wInO, PW.wNInO, PW.call, PW.lent, PW.lentB, PW.lentR, PW.lentOk, PW.back_nil, PW.back_v, PW.back_r, PW.back_b, PW.entry, PW.noX, PW.b2i, PW.nLc, PW.fDget, PW.fDin, PW.fDnin, PW.fDlen, PW.nDit, PW.nDic, PW.sDput, PW.putKv, PW.dKv, PW.fSortSet, PW.wMt, PW.fSIndex, PW.fSFind, PW.isStr, PW.isLst1, PW.nLc2, PW.elt1, PW.elt2, line_eq]
      refine ⟨by omega, hK _ ⟨d3, at_ + 1 + r3, s ++ [97 + (at_ + 1 + r3).toNat], _, hd3, by omega, by omega, by simp, by simp; omega, ?_, ?_, rfl, rfl⟩⟩
      · intro c hc
        rcases List.mem_append.mp hc with hc | hc
        · have := hs3 c hc; omega
        · simp at hc; omega
      · rw [List.pairwise_append]
        refine ⟨hs4, by simp, fun a ha b hb => ?_⟩
        have := hs3 a ha
        simp at hb; omega
    · simp [PW.sSeq, PW.sPass, PW.sBreak, PW.sCont, PW.sNever, PW.sExpr, PW.sSet, PW.sNew, PW.sPut, PW.sApp, PW.sFld, PW.sAsg, PW.sRet, PW.sRetN, PW.sRetF, PW.sRetO, PW.sIf, PW.sFor, PW.gN, PW.gT, PW.gUn, PW.wC, PW.wV, PW.rN, PW.rE, PW.peek, PW.wUn, PW.wBin, PW.wLk, PW.wLk2, PW.wLkR, PW.wLkB, PW.tB, PW.tTr, PW.truth, PW.tAnd, PW.tOr, PW.tNot, PW.tYes, PW.wAnd, PW.wOr, PW.wNot, PW.wIf, PW.wChain, PW.aNil, PW.aCons, PW.wTup, PW.nLst, PW.nCat, PW.nRep, PW.wPart, PW.fSl, PW.wSl, PW.nSl, PW.wSlL, PW.fAdd, PW.fSub, PW.fMul, PW.fFdiv, PW.fMod, PW.fPow, PW.fShl, PW.fShr, PW.fAnd, PW.fOr, PW.fXor, PW.fNeg, PW.fLt, PW.fLe, PW.fGt, PW.fGe, PW.fEq, PW.fNe, PW.fIsNone, PW.fIsntNone, PW.isNon, PW.fIn, PW.fNotIn, PW.fIx, PW.fLen, PW.fInt, PW.fAbs, PW.fMax2, PW.fMin2, PW.fTuple, PW.fList, PW.fMaxL, PW.fMinL, PW.fIs, PW.isTy, PW.fIsO, PW.fFld, PW.fCon, PW.fTab, PW.fInTab, PW.fNInTab, PW.plain, PW.plainL, PW.eqv, PW.eqvL, PW.small, PW.putO, PW.free, PW.isBo_sh, PW.isBo_un, PW.isBo_ow, PW.isBo_rd, PW.wipe, PW.unwipe, PW.isLst, PW.putF, PW.iSeq, PW.iStr, PW.iRng1, PW.iRng2, PW.iRngD, PW.iEnum, PW.iZip, PW.items, PW.bNil, PW.bV, PW.bB, PW.bR, PW.kCall, PW.kMeth, PW.kMake, PW.oV, PW.oR, PW.oB, PW.isObj, PW.isCls, PW.wSh, PW.nFr, PW.wInO, PW.wNInO, PW.call, PW.lent, PW.lentB, PW.lentR, PW.lentOk, PW.back_nil, PW.back_v, PW.back_r, PW.back_b, PW.entry, PW.noX, PW.b2i, PW.nLc, PW.fDget, PW.fDin, PW.fDnin, PW.fDlen, PW.nDit, PW.nDic, PW.sDput, PW.putKv, PW.dKv, PW.fSortSet, PW.wMt, PW.fSIndex, PW.fSFind, PW.isStr, PW.isLst1, PW.nLc2, PW.elt1, PW.elt2, line_eq, hat]
      exact hK _ ⟨d, at_, s, _, hd, ha0, ha1, hs1, by omega, hs3, hs4, rfl, rfl⟩
  · rintro ρ ⟨d, at_, s, kk, hd, ha0, ha1, hs1, hs2, hs3, hs4, hk, rfl⟩
    simp [PW.sSeq, PW.sPass, PW.sBreak, PW.sCont, PW.sNever, PW.sExpr, PW.sSet, PW.sNew, PW.sPut, PW.sApp, PW.sFld, PW.sAsg, PW.sRet, PW.sRetN, PW.sRetF, PW.sRetO, PW.sIf, PW.sFor, PW.gN, PW.gT, PW.gUn, PW.wC, PW.wV, PW.rN, PW.rE, PW.peek, PW.wUn, PW.wBin, PW.wLk, PW.wLk2, PW.wLkR, PW.wLkB, PW.tB, PW.tTr, PW.truth, PW.tAnd, PW.tOr, PW.tNot, PW.tYes, PW.wAnd, PW.wOr, PW.wNot, PW.wIf, PW.wChain, PW.aNil, PW.aCons, PW.wTup, PW.nLst, PW.nCat, PW.nRep, PW.wPart, PW.fSl, PW.wSl, PW.nSl, PW.wSlL, PW.fAdd, PW.fSub, PW.fMul, PW.fFdiv, PW.fMod, PW.fPow, PW.fShl, PW.fShr, PW.fAnd, PW.fOr, PW.fXor, PW.fNeg, PW.fLt, PW.fLe, PW.fGt, PW.fGe, PW.fEq, PW.fNe, PW.fIsNone, PW.fIsntNone, PW.isNon, PW.fIn, PW.fNotIn, PW.fIx, PW.fLen, PW.fInt, PW.fAbs, PW.fMax2, PW.fMin2, PW.fTuple, PW.fList, PW.fMaxL, PW.fMinL, PW.fIs, PW.isTy, PW.fIsO, PW.fFld, PW.fCon, PW.fTab, PW.fInTab, PW.fNInTab, PW.plain, PW.plainL, PW.eqv, PW.eqvL, PW.small, PW.putO, PW.free, PW.isBo_sh, PW.isBo_un, PW.isBo_ow, PW.isBo_rd, PW.wipe, PW.unwipe, PW.isLst, PW.putF, PW.iSeq, PW.iStr, PW.iRng1, PW.iRng2, PW.iRngD, PW.iEnum, PW.iZip, PW.items, PW.bNil, PW.bV, PW.bB, PW.bR, PW.kCall, PW.kMeth, PW.kMake, PW.oV, PW.oR, PW.oB, PW.isObj, PW.isCls, PW.wSh, PW.nFr, PW.wInO, PW.wNInO, PW.call, PW.lent, PW.lentB, PW.lentR, PW.lentOk, PW.back_nil, PW.back_v, PW.back_r, PW.back_b, PW.entry, PW.noX, PW.b2i, PW.nLc, PW.fDget, PW.fDin, PW.fDnin, PW.fDlen, PW.nDit, PW.nDic, PW.sDput, PW.putKv, PW.dKv, PW.fSortSet, PW.wMt, PW.fSIndex, PW.fSFind, PW.isStr, PW.isLst1, PW.nLc2, PW.elt1, PW.elt2, line_eq]
    rw [rng_len] at hs2
    exact h d s hd ⟨hs1, by omega, fun c hc => by have := hs3 c hc; omega, hs4⟩
end PW
end

section
set_option linter.all false
set_option maxHeartbeats 4000000
set_option maxRecDepth 100000
/-! Q3: words drawn, letters and words checked. -/
namespace PW
theorem over_nil (s : List Nat) : Over s [] := fun c h => nomatch h
theorem over_app {s a b : List Nat} (ha : Over s a) (hb : Over s b) : Over s (a ++ b) := fun c h => by
  rcases List.mem_append.mp h with h | h
  · exact ha c h
  · exact hb c h
def φ__law_word : FSpec := fun ss q _ => ∃ d s most, IsSt d ∧ Lets s ∧ 0 ≤ most ∧ most ≤ 1000 ∧ ss = [.bo d, .sh (.str s), .sh (.int most)] ∧ ∀ d' w, IsSt d' → Over s w → w.length ≤ most.toNat → q (.sh (.str w)) [.bo d', .sh (.str s), .sh (.int most)]
theorem len__law_word : ∀ ss q e, φ__law_word ss q e → ss.length = 3 := by rintro ss q e ⟨d, s, most, _, _, _, _, rfl, _⟩; rfl
def w__law_word : PW.WS :=
 (PW.sSeq (PW.sSet 3 (PW.wC (.str [])))
 (PW.sSeq (PW.sFor (PW.iRng1 (PW.wSh (PW.kCall φ__law_draw [] (PW.bB 0 (PW.bV (PW.wBin PW.fAdd (PW.wV 2) (PW.wC (.int 1))) PW.bNil))))) (PW.gN 4)
 (PW.sSet 3 (PW.wBin PW.fAdd (PW.wV 3) (PW.wLk2 PW.fIx (PW.rN 1) (PW.wSh (PW.kCall φ__law_draw [] (PW.bB 0 (PW.bV (PW.wLk PW.fLen (PW.rN 1)) PW.bNil))))))))
 (PW.sRet (PW.wV 3))))

theorem hs__law_word : Does φ__law_word 5 w__law_word := by
  rintro ss q e ⟨d, s, most, hd, hs, hm0, hm1, rfl, h⟩
  have hl : s.length ≤ 16777216 := by have := hs.le; omega
  simp [w__law_word, PW.sSeq, PW.sPass, PW.sBreak, PW.sCont, PW.sNever, PW.sExpr, PW.sSet, PW.sNew, PW.sPut, PW.sApp, PW.sFld, PW.sAsg, PW.sRet, PW.sRetN, PW.sRetF, PW.sRetO, PW.sIf, PW.sFor, PW.gN, PW.gT, PW.gUn, PW.wC, PW.wV, PW.rN, PW.rE, PW.peek, PW.wUn, PW.wBin, PW.wLk, PW.wLk2, PW.wLkR, PW.wLkB, PW.tB, PW.tTr, PW.truth, PW.tAnd, PW.tOr, PW.tNot, PW.tYes, PW.wAnd, PW.wOr, PW.wNot, PW.wIf, PW.wChain, PW.aNil, PW.aCons, PW.wTup, PW.nLst, PW.nCat, PW.nRep, PW.wPart, PW.fSl, PW.wSl, PW.nSl, PW.wSlL, PW.fAdd, PW.fSub, PW.fMul, PW.fFdiv, PW.fMod, PW.fPow, PW.fShl, PW.fShr, PW.fAnd, PW.fOr, PW.fXor, PW.fNeg, PW.fLt, PW.fLe, PW.fGt, PW.fGe, PW.fEq, PW.fNe, PW.fIsNone, PW.fIsntNone, PW.isNon, PW.fIn, PW.fNotIn, PW.fIx, PW.fLen, PW.fInt, PW.fAbs, PW.fMax2, PW.fMin2, PW.fTuple, PW.fList, PW.fMaxL, PW.fMinL, PW.fIs, PW.isTy, PW.fIsO, PW.fFld, PW.fCon, PW.fTab, PW.fInTab, PW.fNInTab, PW.plain, PW.plainL, PW.eqv, PW.eqvL, PW.small, PW.putO, PW.free, PW.isBo_sh, PW.isBo_un, PW.isBo_ow, PW.isBo_rd, PW.wipe, PW.unwipe, PW.isLst, PW.putF, PW.iSeq, PW.iStr, PW.iRng1, PW.iRng2, PW.iRngD, PW.iEnum, PW.iZip, PW.items, PW.bNil, PW.bV, PW.bB, PW.bR, PW.kCall, PW.kMeth, PW.kMake, PW.oV, PW.oR, PW.oB, PW.isObj, PW.isCls, PW.wSh, PW.nFr, PW.wInO, PW.wNInO, PW.call, PW.lent, PW.lentB, PW.lentR, PW.lentOk, PW.back_nil, PW.back_v, PW.back_r, PW.back_b, PW.entry, PW.noX, PW.b2i, PW.nLc, PW.fDget, PW.fDin, PW.fDnin, PW.fDlen, PW.nDit, PW.nDic, PW.sDput, PW.putKv, PW.dKv, PW.fSortSet, PW.wMt, PW.fSIndex, PW.fSFind, PW.isStr, PW.isLst1, PW.nLc2, PW.elt1, PW.elt2, line_eq]
  refine ⟨d, most + 1, hd, by omega, by omega, rfl, fun d1 r1 hd1 h0 h1 => ?_⟩
  simp [PW.sSeq, PW.sPass, PW.sBreak, PW.sCont, PW.sNever, PW.sExpr, PW.sSet, PW.sNew, PW.sPut, PW.sApp, PW.sFld, PW.sAsg, PW.sRet, PW.sRetN, PW.sRetF, PW.sRetO, PW.sIf, PW.sFor, PW.gN, PW.gT, PW.gUn, PW.wC, PW.wV, PW.rN, PW.rE, PW.peek, PW.wUn, PW.wBin, PW.wLk, PW.wLk2, PW.wLkR, PW.wLkB, PW.tB, PW.tTr, PW.truth, PW.tAnd, PW.tOr, PW.tNot, PW.tYes, PW.wAnd, PW.wOr, PW.wNot, PW.wIf, PW.wChain, PW.aNil, PW.aCons, PW.wTup, PW.nLst, PW.nCat, PW.nRep, PW.wPart, PW.fSl, PW.wSl, PW.nSl, PW.wSlL, PW.fAdd, PW.fSub, PW.fMul, PW.fFdiv, PW.fMod, PW.fPow, PW.fShl, PW.fShr, PW.fAnd, PW.fOr, PW.fXor, PW.fNeg, PW.fLt, PW.fLe, PW.fGt, PW.fGe, PW.fEq, PW.fNe, PW.fIsNone, PW.fIsntNone, PW.isNon, PW.fIn, PW.fNotIn, PW.fIx, PW.fLen, PW.fInt, PW.fAbs, PW.fMax2, PW.fMin2, PW.fTuple, PW.fList, PW.fMaxL, PW.fMinL, PW.fIs, PW.isTy, PW.fIsO, PW.fFld, PW.fCon, PW.fTab, PW.fInTab, PW.fNInTab, PW.plain, PW.plainL, PW.eqv, PW.eqvL, PW.small, PW.putO, PW.free, PW.isBo_sh, PW.isBo_un, PW.isBo_ow, PW.isBo_rd, PW.wipe, PW.unwipe, PW.isLst, PW.putF, PW.iSeq, PW.iStr, PW.iRng1, PW.iRng2, PW.iRngD, PW.iEnum, PW.iZip, PW.items, PW.bNil, PW.bV, PW.bB, PW.bR, PW.kCall, PW.kMeth, PW.kMake, PW.oV, PW.oR, PW.oB, PW.isObj, PW.isCls, PW.wSh, PW.nFr, PW.wInO, PW.wNInO, PW.call, PW.lent, PW.lentB, PW.lentR, PW.lentOk, PW.back_nil, PW.back_v, PW.back_r, PW.back_b, PW.entry, PW.noX, PW.b2i, PW.nLc, PW.fDget, PW.fDin, PW.fDnin, PW.fDlen, PW.nDit, PW.nDic, PW.sDput, PW.putKv, PW.dKv, PW.fSortSet, PW.wMt, PW.fSIndex, PW.fSFind, PW.isStr, PW.isLst1, PW.nLc2, PW.elt1, PW.elt2, line_eq]
  refine ⟨by unfold rngB; omega, ?_⟩
  refine loop_ix _ (fun i ρ => ∃ (d : D) (w : List Nat) (kk : Sl), IsSt d ∧ Over s w ∧ w.length = i ∧ isBo kk = false ∧ ρ = [.bo d, .sh (.str s), .sh (.int most), .sh (.str w), kk])
    ⟨d1, [], .un, hd1, over_nil s, rfl, rfl, rfl⟩ ?_ ?_
  · rintro i x ρ K hx ⟨d, w, kk, hd, hw, hl2, hk, rfl⟩ hK
    obtain ⟨hi, rfl⟩ := rng_some hx
    simp [PW.sSeq, PW.sPass, PW.sBreak, PW.sCont, PW.sNever, PW.sExpr, PW.sSet, PW.sNew, PW.sPut, PW.sApp, PW.sFld, PW.sAsg, PW.sRet, PW.sRetN, PW.sRetF, PW.sRetO, PW.sIf, PW.sFor, PW.gN, PW.gT, PW.gUn, PW.wC, PW.wV, PW.rN, PW.rE, PW.peek, PW.wUn, PW.wBin, PW.wLk, PW.wLk2, PW.wLkR, PW.wLkB, PW.tB, PW.tTr, PW.truth, PW.tAnd, PW.tOr, PW.tNot, PW.tYes, PW.wAnd, PW.wOr, PW.wNot, PW.wIf, PW.wChain, PW.aNil, PW.aCons, PW.wTup, PW.nLst, PW.nCat, PW.nRep, PW.wPart, PW.fSl, PW.wSl, PW.nSl, PW.wSlL, PW.fAdd, PW.fSub, PW.fMul, PW.fFdiv, PW.fMod, PW.fPow, PW.fShl, PW.fShr, PW.fAnd, PW.fOr, PW.fXor, PW.fNeg, PW.fLt, PW.fLe, PW.fGt, PW.fGe, PW.fEq, PW.fNe, PW.fIsNone, PW.fIsntNone, PW.isNon, PW.fIn, PW.fNotIn, PW.fIx, PW.fLen, PW.fInt, PW.fAbs, PW.fMax2, PW.fMin2, PW.fTuple, PW.fList, PW.fMaxL, PW.fMinL, PW.fIs, PW.isTy, PW.fIsO, PW.fFld, PW.fCon, PW.fTab, PW.fInTab, PW.fNInTab, PW.plain, PW.plainL, PW.eqv, PW.eqvL, PW.small, PW.putO, PW.free, PW.isBo_sh, PW.isBo_un, PW.isBo_ow, PW.isBo_rd, PW.wipe, PW.unwipe, PW.isLst, PW.putF, PW.iSeq, PW.iStr, PW.iRng1, PW.iRng2, PW.iRngD, PW.iEnum, PW.iZip, PW.items, PW.bNil, PW.bV, PW.bB, PW.bR, PW.kCall, PW.kMeth, PW.kMake, PW.oV, PW.oR, PW.oB, PW.isObj, PW.isCls, PW.wSh, PW.nFr, PW.wInO, PW.wNInO, PW.call, PW.lent, PW.lentB, PW.lentR, PW.lentOk, PW.back_nil, PW.back_v, PW.back_r, PW.back_b, PW.entry, PW.noX, PW.b2i, PW.nLc, PW.fDget, PW.fDin, PW.fDnin, PW.fDlen, PW.nDit, PW.nDic, PW.sDput, PW.putKv, PW.dKv, PW.fSortSet, PW.wMt, PW.fSIndex, PW.fSFind, PW.isStr, PW.isLst1, PW.nLc2, PW.elt1, PW.elt2, line_eq, hk, hl]
    have hn := hs.ne
    have hn2 := hs.le
    refine ⟨d, s.length, hd, by omega, by omega, rfl, fun d3 r3 hd3 h4 h5 => ?_⟩
    simp [PW.sSeq, PW.sPass, PW.sBreak, PW.sCont, PW.sNever, PW.sExpr, PW.sSet, PW.sNew, PW.sPut, PW.sApp, PW.sFld, PW.sAsg, PW.sRet, PW.sRetN, PW.sRetF, PW.sRetO, PW.sIf, PW.sFor, PW.gN, PW.gT, PW.gUn, PW.wC, PW.wV, PW.rN, PW.rE, PW.peek, PW.wUn, PW.wBin, PW.wLk, PW.wLk2, PW.wLkR, PW.wLkB, PW.tB, PW.tTr, PW.truth, PW.tAnd, PW.tOr, PW.tNot, PW.tYes, PW.wAnd, PW.wOr, PW.wNot, PW.wIf, PW.wChain, PW.aNil, PW.aCons, PW.wTup, PW.nLst, PW.nCat, PW.nRep, PW.wPart, PW.fSl, PW.wSl, PW.nSl, PW.wSlL, PW.fAdd, PW.fSub, PW.fMul, PW.fFdiv, PW.fMod, PW.fPow, PW.fShl, PW.fShr, PW.fAnd, PW.fOr, PW.fXor, PW.fNeg, PW.fLt, PW.fLe, PW.fGt, PW.fGe, PW.fEq, PW.fNe, PW.fIsNone, PW.fIsntNone, PW.isNon, PW.fIn, PW.fNotIn, PW.fIx, PW.fLen, PW.fInt, PW.fAbs, PW.fMax2, PW.fMin2, PW.fTuple, PW.fList, PW.fMaxL, PW.fMinL, PW.fIs, PW.isTy, PW.fIsO, PW.fFld, PW.fCon, PW.fTab, PW.fInTab, PW.fNInTab, PW.plain, PW.plainL, PW.eqv, PW.eqvL, PW.small, PW.putO, PW.free, PW.isBo_sh, PW.isBo_un, PW.isBo_ow, PW.isBo_rd, PW.wipe, PW.unwipe, PW.isLst, PW.putF, PW.iSeq, PW.iStr, PW.iRng1, PW.iRng2, PW.iRngD, PW.iEnum, PW.iZip, PW.items, PW.bNil, PW.bV, PW.bB, PW.bR, PW.kCall, PW.kMeth, PW.kMake, PW.oV, PW.oR, PW.oB, PW.isObj, PW.isCls, PW.wSh, PW.nFr, PW.wInO, PW.wNInO, PW.call, PW.lent, PW.lentB, PW.lentR, PW.lentOk, PW.back_nil, PW.back_v, PW.back_r, PW.back_b, PW.entry, PW.noX, PW.b2i, PW.nLc, PW.fDget, PW.fDin, PW.fDnin, PW.fDlen, PW.nDit, PW.nDic, PW.sDput, PW.putKv, PW.dKv, PW.fSortSet, PW.wMt, PW.fSIndex, PW.fSFind, PW.isStr, PW.isLst1, PW.nLc2, PW.elt1, PW.elt2, line_eq]
    rw [atI_of h4]
    have hlt : r3.toNat < s.length := by omega
    rw [List.getElem?_eq_getElem hlt]
    simp [PW.sSeq, PW.sPass, PW.sBreak, PW.sCont, PW.sNever, PW.sExpr, PW.sSet, PW.sNew, PW.sPut, PW.sApp, PW.sFld, PW.sAsg, PW.sRet, PW.sRetN, PW.sRetF, PW.sRetO, PW.sIf, PW.sFor, PW.gN, PW.gT, PW.gUn, PW.wC, PW.wV, PW.rN, PW.rE, PW.peek, PW.wUn, PW.wBin, PW.wLk, PW.wLk2, PW.wLkR, PW.wLkB, PW.tB, PW.tTr, PW.truth, PW.tAnd, PW.tOr, PW.tNot, PW.tYes, PW.wAnd, PW.wOr, PW.wNot, PW.wIf, PW.wChain, PW.aNil, PW.aCons, PW.wTup, PW.nLst, PW.nCat, PW.nRep, PW.wPart, PW.fSl, PW.wSl, PW.nSl, PW.wSlL, PW.fAdd, PW.fSub, PW.fMul, PW.fFdiv, PW.fMod, PW.fPow, PW.fShl, PW.fShr, PW.fAnd, PW.fOr, PW.fXor, PW.fNeg, PW.fLt, PW.fLe, PW.fGt, PW.fGe, PW.fEq, PW.fNe, PW.fIsNone, PW.fIsntNone, PW.isNon, PW.fIn, PW.fNotIn, PW.fIx, PW.fLen, PW.fInt, PW.fAbs, PW.fMax2, PW.fMin2, PW.fTuple, PW.fList, PW.fMaxL, PW.fMinL, PW.fIs, PW.isTy, PW.fIsO, PW.fFld, PW.fCon, PW.fTab, PW.fInTab, PW.fNInTab, PW.plain, PW.plainL, PW.eqv, PW.eqvL, PW.small, PW.putO, PW.free, PW.isBo_sh, PW.isBo_un, PW.isBo_ow, PW.isBo_rd, PW.wipe, PW.unwipe, PW.isLst, PW.putF, PW.iSeq, PW.iStr, PW.iRng1, PW.iRng2, PW.iRngD, PW.iEnum, PW.iZip, PW.items, PW.bNil, PW.bV, PW.bB, PW.bR, PW.kCall, PW.kMeth, PW.kMake, PW.oV, PW.oR, PW.oB, PW.isObj, PW.isCls, PW.wSh, PW.nFr, PW.wInO, PW.wNInO, PW.call, PW.lent, PW.lentB, PW.lentR, PW.lentOk, PW.back_nil, PW.back_v, PW.back_r, PW.back_b, PW.entry, PW.noX, PW.b2i, PW.nLc, PW.fDget, PW.fDin, PW.fDnin, PW.fDlen, PW.nDit, PW.nDic, PW.sDput, PW.putKv, PW.dKv, PW.fSortSet, PW.wMt, PW.fSIndex, PW.fSFind, PW.isStr, PW.isLst1, PW.nLc2, PW.elt1, PW.elt2, line_eq]
    exact ⟨by omega, by omega, hK _ ⟨d3, _, _, hd3, over_app hw (fun c hc => by simp at hc; subst hc; exact List.getElem_mem hlt), by simp [hl2], rfl, rfl⟩⟩
  · rintro ρ ⟨d, w, kk, hd, hw, hl2, hk, rfl⟩
    simp [PW.sSeq, PW.sPass, PW.sBreak, PW.sCont, PW.sNever, PW.sExpr, PW.sSet, PW.sNew, PW.sPut, PW.sApp, PW.sFld, PW.sAsg, PW.sRet, PW.sRetN, PW.sRetF, PW.sRetO, PW.sIf, PW.sFor, PW.gN, PW.gT, PW.gUn, PW.wC, PW.wV, PW.rN, PW.rE, PW.peek, PW.wUn, PW.wBin, PW.wLk, PW.wLk2, PW.wLkR, PW.wLkB, PW.tB, PW.tTr, PW.truth, PW.tAnd, PW.tOr, PW.tNot, PW.tYes, PW.wAnd, PW.wOr, PW.wNot, PW.wIf, PW.wChain, PW.aNil, PW.aCons, PW.wTup, PW.nLst, PW.nCat, PW.nRep, PW.wPart, PW.fSl, PW.wSl, PW.nSl, PW.wSlL, PW.fAdd, PW.fSub, PW.fMul, PW.fFdiv, PW.fMod, PW.fPow, PW.fShl, PW.fShr, PW.fAnd, PW.fOr, PW.fXor, PW.fNeg, PW.fLt, PW.fLe, PW.fGt, PW.fGe, PW.fEq, PW.fNe, PW.fIsNone, PW.fIsntNone, PW.isNon, PW.fIn, PW.fNotIn, PW.fIx, PW.fLen, PW.fInt, PW.fAbs, PW.fMax2, PW.fMin2, PW.fTuple, PW.fList, PW.fMaxL, PW.fMinL, PW.fIs, PW.isTy, PW.fIsO, PW.fFld, PW.fCon, PW.fTab, PW.fInTab, PW.fNInTab, PW.plain, PW.plainL, PW.eqv, PW.eqvL, PW.small, PW.putO, PW.free, PW.isBo_sh, PW.isBo_un, PW.isBo_ow, PW.isBo_rd, PW.wipe, PW.unwipe, PW.isLst, PW.putF, PW.iSeq, PW.iStr, PW.iRng1, PW.iRng2, PW.iRngD, PW.iEnum, PW.iZip, PW.items, PW.bNil, PW.bV, PW.bB, PW.bR, PW.kCall, PW.kMeth, PW.kMake, PW.oV, PW.oR, PW.oB, PW.isObj, PW.isCls, PW.wSh, PW.nFr, PW.wInO, PW.wNInO, PW.call, PW.lent, PW.lentB, PW.lentR, PW.lentOk, PW.back_nil, PW.back_v, PW.back_r, PW.back_b, PW.entry, PW.noX, PW.b2i, PW.nLc, PW.fDget, PW.fDin, PW.fDnin, PW.fDlen, PW.nDit, PW.nDic, PW.sDput, PW.putKv, PW.dKv, PW.fSortSet, PW.wMt, PW.fSIndex, PW.fSFind, PW.isStr, PW.isLst1, PW.nLc2, PW.elt1, PW.elt2, line_eq]
    rw [rng_len] at hl2
    exact h d w hd hw (by omega)
/-- the letters stand -/
def φ_check_letters : FSpec := fun ss q _ => ∃ s, Lets s ∧ ss = [.sh (.str s)] ∧ ∀ os, q (.sh (.str s)) os
theorem len_check_letters : ∀ ss q e, φ_check_letters ss q e → ss.length = 1 := by rintro ss q e ⟨s, _, rfl, _⟩; rfl
def w_check_letters : PW.WS :=
 (PW.sSeq (PW.sIf (PW.tNot (PW.tB (PW.wChain PW.fLe PW.fLe (PW.wC (.int 1)) (PW.wLk PW.fLen (PW.rN 0)) (PW.wC (.int 3)))))
 PW.sNever
 PW.sPass)
 (PW.sSeq (PW.sSet 1 (PW.wC (.str [])))
 (PW.sSeq (PW.sFor (PW.iStr (PW.wV 0)) (PW.gN 2)
 (PW.sSeq (PW.sIf (PW.tOr (PW.tB (PW.wLkB PW.fNotIn (PW.rN 2) (PW.rE (PW.wC (.str [97, 98, 99, 100, 101, 102, 103, 104, 105, 106, 107, 108, 109, 110, 111, 112, 113, 114, 115, 116, 117, 118, 119, 120, 121, 122]))))) (PW.tB (PW.wLkB PW.fLe (PW.rN 2) (PW.rN 1))))
 PW.sNever
 PW.sPass)
 (PW.sSet 1 (PW.wV 2))))
 (PW.sRet (PW.wV 0)))))

theorem hs_check_letters : Does φ_check_letters 3 w_check_letters := by
  rintro ss q e ⟨s, hs, rfl, h⟩
  have hl : s.length ≤ 16777216 := by have := hs.le; omega
  have h1 := hs.ne
  have h2 := hs.le
  simp [w_check_letters, PW.sSeq, PW.sPass, PW.sBreak, PW.sCont, PW.sNever, PW.sExpr, PW.sSet, PW.sNew, PW.sPut, PW.sApp, PW.sFld, PW.sAsg, PW.sRet, PW.sRetN, PW.sRetF, PW.sRetO, PW.sIf, PW.sFor, PW.gN, PW.gT, PW.gUn, PW.wC, PW.wV, PW.rN, PW.rE, PW.peek, PW.wUn, PW.wBin, PW.wLk, PW.wLk2, PW.wLkR, PW.wLkB, PW.tB, PW.tTr, PW.truth, PW.tAnd, PW.tOr, PW.tNot, PW.tYes, PW.wAnd, PW.wOr, PW.wNot, PW.wIf, PW.wChain, PW.aNil, PW.aCons, PW.wTup, PW.nLst, PW.nCat, PW.nRep, PW.wPart, PW.fSl, PW.wSl, PW.nSl, PW.wSlL, PW.fAdd, PW.fSub, PW.fMul, PW.fFdiv, PW.fMod, PW.fPow, PW.fShl, PW.fShr, PW.fAnd, PW.fOr, PW.fXor, PW.fNeg, PW.fLt, PW.fLe, PW.fGt, PW.fGe, PW.fEq, PW.fNe, PW.fIsNone, PW.fIsntNone, PW.isNon, PW.fIn, PW.fNotIn, PW.fIx, PW.fLen, PW.fInt, PW.fAbs, PW.fMax2, PW.fMin2, PW.fTuple, PW.fList, PW.fMaxL, PW.fMinL, PW.fIs, PW.isTy, PW.fIsO, PW.fFld, PW.fCon, PW.fTab, PW.fInTab, PW.fNInTab, PW.plain, PW.plainL, PW.eqv, PW.eqvL, PW.small, PW.putO, PW.free, PW.isBo_sh, PW.isBo_un, PW.isBo_ow, PW.isBo_rd, PW.wipe, PW.unwipe, PW.isLst, PW.putF, PW.iSeq, PW.iStr, PW.iRng1, PW.iRng2, PW.iRngD, PW.iEnum, PW.iZip, PW.items, PW.bNil, PW.bV, PW.bB, PW.bR, PW.kCall, PW.kMeth, PW.kMake, PW.oV, PW.oR, PW.oB, PW.isObj, PW.isCls, PW.wSh, PW.nFr, PW.wInO, PW.wNInO, PW.call, PW.lent, PW.lentB, PW.lentR, PW.lentOk, PW.back_nil, PW.back_v, PW.back_r, PW.back_b, PW.entry, PW.noX, PW.b2i, PW.nLc, PW.fDget, PW.fDin, PW.fDnin, PW.fDlen, PW.nDit, PW.nDic, PW.sDput, PW.putKv, PW.dKv, PW.fSortSet, PW.wMt, PW.fSIndex, PW.fSFind, PW.isStr, PW.isLst1, PW.nLc2, PW.elt1, PW.elt2, line_eq, hl]
  refine ⟨by omega, by omega, ?_⟩
  refine loop_ix _ (fun i ρ => ∃ (last : List Nat) (kk : Sl), (∀ c, s[i]? = some c → ¬ [c] ≤ last) ∧ isBo kk = false ∧ ρ = [.sh (.str s), .sh (.str last), kk])
    ⟨[], .un, by simp, rfl, rfl⟩ ?_ ?_
  · rintro i x ρ K hx ⟨last, kk, hlast, hk, rfl⟩ hK
    rw [List.getElem?_map] at hx
    obtain ⟨c, hc, rfl⟩ := Option.map_eq_some_iff.mp hx
    have hc2 := hs.small c (List.mem_of_getElem? hc)
    have hc3 := hlast c hc
    have hc4 : c ∈ [97, 98, 99, 100, 101, 102, 103, 104, 105, 106, 107, 108, 109, 110, 111, 112, 113, 114, 115, 116, 117, 118, 119, 120, 121, 122] := by
      simp only [List.mem_cons, List.not_mem_nil, or_false]
      omega
    simp [PW.sSeq, PW.sPass, PW.sBreak, PW.sCont, PW.sNever, PW.sExpr, PW.sSet, PW.sNew, PW.sPut, PW.sApp, PW.sFld, PW.sAsg, PW.sRet, PW.sRetN, PW.sRetF, PW.sRetO, PW.sIf, PW.sFor, PW.gN, PW.gT, PW.gUn, PW.wC, PW.wV, PW.rN, PW.rE, PW.peek, PW.wUn, PW.wBin, PW.wLk, PW.wLk2, PW.wLkR, PW.wLkB, PW.tB, PW.tTr, PW.truth, PW.tAnd, PW.tOr, PW.tNot, PW.tYes, PW.wAnd, PW.wOr, PW.wNot, PW.wIf, PW.wChain, PW.aNil, PW.aCons, PW.wTup, PW.nLst, PW.nCat, PW.nRep, PW.wPart, PW.fSl, PW.wSl, PW.nSl, PW.wSlL, PW.fAdd, PW.fSub, PW.fMul, PW.fFdiv, PW.fMod, PW.fPow, PW.fShl, PW.fShr, PW.fAnd, PW.fOr, PW.fXor, PW.fNeg, PW.fLt, PW.fLe, PW.fGt, PW.fGe, PW.fEq, PW.fNe, PW.fIsNone, PW.fIsntNone, PW.isNon, PW.fIn, PW.fNotIn, PW.fIx, PW.fLen, PW.fInt, PW.fAbs, PW.fMax2, PW.fMin2, PW.fTuple, PW.fList, PW.fMaxL, PW.fMinL, PW.fIs, PW.isTy, PW.fIsO, PW.fFld, PW.fCon, PW.fTab, PW.fInTab, PW.fNInTab, PW.plain, PW.plainL, PW.eqv, PW.eqvL, PW.small, PW.putO, PW.free, PW.isBo_sh, PW.isBo_un, PW.isBo_ow, PW.isBo_rd, PW.wipe, PW.unwipe, PW.isLst, PW.putF, PW.iSeq, PW.iStr, PW.iRng1, PW.iRng2, PW.iRngD, PW.iEnum, PW.iZip, PW.items, PW.bNil, PW.bV, PW.bB, PW.bR, PW.kCall, PW.kMeth, PW.kMake, PW.oV, PW.oR, PW.oB, PW.isObj, PW.isCls, PW.wSh, PW.nFr, PW.wInO, PW.wNInO, PW.call, PW.lent, PW.lentB, PW.lentR, PW.lentOk, PW.back_nil, PW.back_v, PW.back_r, PW.back_b, PW.entry, PW.noX, PW.b2i, PW.nLc, PW.fDget, PW.fDin, PW.fDnin, PW.fDlen, PW.nDit, PW.nDic, PW.sDput, PW.putKv, PW.dKv, PW.fSortSet, PW.wMt, PW.fSIndex, PW.fSFind, PW.isStr, PW.isLst1, PW.nLc2, PW.elt1, PW.elt2, line_eq, hk, hc4, hc3]
    have hfin : K [.sh (.str s), .sh (.str [c]), .sh (.str [c])] := hK _ ⟨[c], _, fun c' hc' => by
      have hp := List.pairwise_iff_getElem.mp hs.asc i (i + 1) (List.getElem?_eq_some_iff.mp hc).1 (List.getElem?_eq_some_iff.mp hc').1 (Nat.lt_succ_self i)
      rw [(List.getElem?_eq_some_iff.mp hc).2, (List.getElem?_eq_some_iff.mp hc').2] at hp
      simp [List.cons_le_cons_iff]
      omega, rfl, rfl⟩
    exact hfin
  · rintro ρ ⟨last, kk, hlast, hk, rfl⟩
    simp [PW.sSeq, PW.sPass, PW.sBreak, PW.sCont, PW.sNever, PW.sExpr, PW.sSet, PW.sNew, PW.sPut, PW.sApp, PW.sFld, PW.sAsg, PW.sRet, PW.sRetN, PW.sRetF, PW.sRetO, PW.sIf, PW.sFor, PW.gN, PW.gT, PW.gUn, PW.wC, PW.wV, PW.rN, PW.rE, PW.peek, PW.wUn, PW.wBin, PW.wLk, PW.wLk2, PW.wLkR, PW.wLkB, PW.tB, PW.tTr, PW.truth, PW.tAnd, PW.tOr, PW.tNot, PW.tYes, PW.wAnd, PW.wOr, PW.wNot, PW.wIf, PW.wChain, PW.aNil, PW.aCons, PW.wTup, PW.nLst, PW.nCat, PW.nRep, PW.wPart, PW.fSl, PW.wSl, PW.nSl, PW.wSlL, PW.fAdd, PW.fSub, PW.fMul, PW.fFdiv, PW.fMod, PW.fPow, PW.fShl, PW.fShr, PW.fAnd, PW.fOr, PW.fXor, PW.fNeg, PW.fLt, PW.fLe, PW.fGt, PW.fGe, PW.fEq, PW.fNe, PW.fIsNone, PW.fIsntNone, PW.isNon, PW.fIn, PW.fNotIn, PW.fIx, PW.fLen, PW.fInt, PW.fAbs, PW.fMax2, PW.fMin2, PW.fTuple, PW.fList, PW.fMaxL, PW.fMinL, PW.fIs, PW.isTy, PW.fIsO, PW.fFld, PW.fCon, PW.fTab, PW.fInTab, PW.fNInTab, PW.plain, PW.plainL, PW.eqv, PW.eqvL, PW.small, PW.putO, PW.free, PW.isBo_sh, PW.isBo_un, PW.isBo_ow, PW.isBo_rd, PW.wipe, PW.unwipe, PW.isLst, PW.putF, PW.iSeq, PW.iStr, PW.iRng1, PW.iRng2, PW.iRngD, PW.iEnum, PW.iZip, PW.items, PW.bNil, PW.bV, PW.bB, PW.bR, PW.kCall, PW.kMeth, PW.kMake, PW.oV, PW.oR, PW.oB, PW.isObj, PW.isCls, PW.wSh, PW.nFr, PW.wInO, PW.wNInO, PW.call, PW.lent, PW.lentB, PW.lentR, PW.lentOk, PW.back_nil, PW.back_v, PW.back_r, PW.back_b, PW.entry, PW.noX, PW.b2i, PW.nLc, PW.fDget, PW.fDin, PW.fDnin, PW.fDlen, PW.nDit, PW.nDic, PW.sDput, PW.putKv, PW.dKv, PW.fSortSet, PW.wMt, PW.fSIndex, PW.fSFind, PW.isStr, PW.isLst1, PW.nLc2, PW.elt1, PW.elt2, line_eq]
    exact h _
def φ_check_word : FSpec := fun ss q _ => ∃ s w, Lets s ∧ Over s w ∧ w.length ≤ 100000 ∧ ss = [.sh (.str w), .sh (.str s)] ∧ ∀ os, q (.sh (.str w)) os
theorem len_check_word : ∀ ss q e, φ_check_word ss q e → ss.length = 2 := by rintro ss q e ⟨s, w, _, _, _, rfl, _⟩; rfl
def w_check_word : PW.WS :=
 (PW.sSeq (PW.sFor (PW.iEnum (PW.wV 0)) (PW.gT [(PW.gN 2), (PW.gN 3)])
 (PW.sIf (PW.tB (PW.wLkB PW.fNotIn (PW.rN 3) (PW.rN 1)))
 PW.sNever
 PW.sPass))
 (PW.sRet (PW.wV 0)))

theorem hs_check_word : Does φ_check_word 4 w_check_word := by
  rintro ss q e ⟨s, w, hs, hw, hl, rfl, h⟩
  simp [w_check_word, PW.sSeq, PW.sPass, PW.sBreak, PW.sCont, PW.sNever, PW.sExpr, PW.sSet, PW.sNew, PW.sPut, PW.sApp, PW.sFld, PW.sAsg, PW.sRet, PW.sRetN, PW.sRetF, PW.sRetO, PW.sIf, PW.sFor, PW.gN, PW.gT, PW.gUn, PW.wC, PW.wV, PW.rN, PW.rE, PW.peek, PW.wUn, PW.wBin, PW.wLk, PW.wLk2, PW.wLkR, PW.wLkB, PW.tB, PW.tTr, PW.truth, PW.tAnd, PW.tOr, PW.tNot, PW.tYes, PW.wAnd, PW.wOr, PW.wNot, PW.wIf, PW.wChain, PW.aNil, PW.aCons, PW.wTup, PW.nLst, PW.nCat, PW.nRep, PW.wPart, PW.fSl, PW.wSl, PW.nSl, PW.wSlL, PW.fAdd, PW.fSub, PW.fMul, PW.fFdiv, PW.fMod, PW.fPow, PW.fShl, PW.fShr, PW.fAnd, PW.fOr, PW.fXor, PW.fNeg, PW.fLt, PW.fLe, PW.fGt, PW.fGe, PW.fEq, PW.fNe, PW.fIsNone, PW.fIsntNone, PW.isNon, PW.fIn, PW.fNotIn, PW.fIx, PW.fLen, PW.fInt, PW.fAbs, PW.fMax2, PW.fMin2, PW.fTuple, PW.fList, PW.fMaxL, PW.fMinL, PW.fIs, PW.isTy, PW.fIsO, PW.fFld, PW.fCon, PW.fTab, PW.fInTab, PW.fNInTab, PW.plain, PW.plainL, PW.eqv, PW.eqvL, PW.small, PW.putO, PW.free, PW.isBo_sh, PW.isBo_un, PW.isBo_ow, PW.isBo_rd, PW.wipe, PW.unwipe, PW.isLst, PW.putF, PW.iSeq, PW.iStr, PW.iRng1, PW.iRng2, PW.iRngD, PW.iEnum, PW.iZip, PW.items, PW.bNil, PW.bV, PW.bB, PW.bR, PW.kCall, PW.kMeth, PW.kMake, PW.oV, PW.oR, PW.oB, PW.isObj, PW.isCls, PW.wSh, PW.nFr, PW.wInO, PW.wNInO, PW.call, PW.lent, PW.lentB, PW.lentR, PW.lentOk, PW.back_nil, PW.back_v, PW.back_r, PW.back_b, PW.entry, PW.noX, PW.b2i, PW.nLc, PW.fDget, PW.fDin, PW.fDnin, PW.fDlen, PW.nDit, PW.nDic, PW.sDput, PW.putKv, PW.dKv, PW.fSortSet, PW.wMt, PW.fSIndex, PW.fSFind, PW.isStr, PW.isLst1, PW.nLc2, PW.elt1, PW.elt2, line_eq, hl]
  refine loop_ix _ (fun i ρ => ∃ (k1 k2 : Sl), isBo k1 = false ∧ isBo k2 = false ∧ ρ = [.sh (.str w), .sh (.str s), k1, k2])
    ⟨.un, .un, rfl, rfl, rfl⟩ ?_ ?_
  · rintro i x ρ K hx ⟨k1, k2, hk1, hk2, rfl⟩ hK
    rw [enumL_get, List.getElem?_map, Option.map_map] at hx
    obtain ⟨c, hc, rfl⟩ := Option.map_eq_some_iff.mp hx
    have hc2 := hw c (List.mem_of_getElem? hc)
    simp [PW.sSeq, PW.sPass, PW.sBreak, PW.sCont, PW.sNever, PW.sExpr, PW.sSet, PW.sNew, PW.sPut, PW.sApp, PW.sFld, PW.sAsg, PW.sRet, PW.sRetN, PW.sRetF, PW.sRetO, PW.sIf, PW.sFor, PW.gN, PW.gT, PW.gUn, PW.wC, PW.wV, PW.rN, PW.rE, PW.peek, PW.wUn, PW.wBin, PW.wLk, PW.wLk2, PW.wLkR, PW.wLkB, PW.tB, PW.tTr, PW.truth, PW.tAnd, PW.tOr, PW.tNot, PW.tYes, PW.wAnd, PW.wOr, PW.wNot, PW.wIf, PW.wChain, PW.aNil, PW.aCons, PW.wTup, PW.nLst, PW.nCat, PW.nRep, PW.wPart, PW.fSl, PW.wSl, PW.nSl, PW.wSlL, PW.fAdd, PW.fSub, PW.fMul, PW.fFdiv, PW.fMod, PW.fPow, PW.fShl, PW.fShr, PW.fAnd, PW.fOr, PW.fXor, PW.fNeg, PW.fLt, PW.fLe, PW.fGt, PW.fGe, PW.fEq, PW.fNe, PW.fIsNone, PW.fIsntNone, PW.isNon, PW.fIn, PW.fNotIn, PW.fIx, PW.fLen, PW.fInt, PW.fAbs, PW.fMax2, PW.fMin2, PW.fTuple, PW.fList, PW.fMaxL, PW.fMinL, PW.fIs, PW.isTy, PW.fIsO, PW.fFld, PW.fCon, PW.fTab, PW.fInTab, PW.fNInTab, PW.plain, PW.plainL, PW.eqv, PW.eqvL, PW.small, PW.putO, PW.free, PW.isBo_sh, PW.isBo_un, PW.isBo_ow, PW.isBo_rd, PW.wipe, PW.unwipe, PW.isLst, PW.putF, PW.iSeq, PW.iStr, PW.iRng1, PW.iRng2, PW.iRngD, PW.iEnum, PW.iZip, PW.items, PW.bNil, PW.bV, PW.bB, PW.bR, PW.kCall, PW.kMeth, PW.kMake, PW.oV, PW.oR, PW.oB, PW.isObj, PW.isCls, PW.wSh, PW.nFr, PW.wInO, PW.wNInO, PW.call, PW.lent, PW.lentB, PW.lentR, PW.lentOk, PW.back_nil, PW.back_v, PW.back_r, PW.back_b, PW.entry, PW.noX, PW.b2i, PW.nLc, PW.fDget, PW.fDin, PW.fDnin, PW.fDlen, PW.nDit, PW.nDic, PW.sDput, PW.putKv, PW.dKv, PW.fSortSet, PW.wMt, PW.fSIndex, PW.fSFind, PW.isStr, PW.isLst1, PW.nLc2, PW.elt1, PW.elt2, line_eq, hk1, hk2, hc2]
    exact hK _ ⟨_, _, rfl, rfl, rfl⟩
  · rintro ρ ⟨k1, k2, hk1, hk2, rfl⟩
    simp [PW.sSeq, PW.sPass, PW.sBreak, PW.sCont, PW.sNever, PW.sExpr, PW.sSet, PW.sNew, PW.sPut, PW.sApp, PW.sFld, PW.sAsg, PW.sRet, PW.sRetN, PW.sRetF, PW.sRetO, PW.sIf, PW.sFor, PW.gN, PW.gT, PW.gUn, PW.wC, PW.wV, PW.rN, PW.rE, PW.peek, PW.wUn, PW.wBin, PW.wLk, PW.wLk2, PW.wLkR, PW.wLkB, PW.tB, PW.tTr, PW.truth, PW.tAnd, PW.tOr, PW.tNot, PW.tYes, PW.wAnd, PW.wOr, PW.wNot, PW.wIf, PW.wChain, PW.aNil, PW.aCons, PW.wTup, PW.nLst, PW.nCat, PW.nRep, PW.wPart, PW.fSl, PW.wSl, PW.nSl, PW.wSlL, PW.fAdd, PW.fSub, PW.fMul, PW.fFdiv, PW.fMod, PW.fPow, PW.fShl, PW.fShr, PW.fAnd, PW.fOr, PW.fXor, PW.fNeg, PW.fLt, PW.fLe, PW.fGt, PW.fGe, PW.fEq, PW.fNe, PW.fIsNone, PW.fIsntNone, PW.isNon, PW.fIn, PW.fNotIn, PW.fIx, PW.fLen, PW.fInt, PW.fAbs, PW.fMax2, PW.fMin2, PW.fTuple, PW.fList, PW.fMaxL, PW.fMinL, PW.fIs, PW.isTy, PW.fIsO, PW.fFld, PW.fCon, PW.fTab, PW.fInTab, PW.fNInTab, PW.plain, PW.plainL, PW.eqv, PW.eqvL, PW.small, PW.putO, PW.free, PW.isBo_sh, PW.isBo_un, PW.isBo_ow, PW.isBo_rd, PW.wipe, PW.unwipe, PW.isLst, PW.putF, PW.iSeq, PW.iStr, PW.iRng1, PW.iRng2, PW.iRngD, PW.iEnum, PW.iZip, PW.items, PW.bNil, PW.bV, PW.bB, PW.bR, PW.kCall, PW.kMeth, PW.kMake, PW.oV, PW.oR, PW.oB, PW.isObj, PW.isCls, PW.wSh, PW.nFr, PW.wInO, PW.wNInO, PW.call, PW.lent, PW.lentB, PW.lentR, PW.lentOk, PW.back_nil, PW.back_v, PW.back_r, PW.back_b, PW.entry, PW.noX, PW.b2i, PW.nLc, PW.fDget, PW.fDin, PW.fDnin, PW.fDlen, PW.nDit, PW.nDic, PW.sDput, PW.putKv, PW.dKv, PW.fSortSet, PW.wMt, PW.fSIndex, PW.fSFind, PW.isStr, PW.isLst1, PW.nLc2, PW.elt1, PW.elt2, line_eq]
    exact h _
end PW
end

section
set_option linter.all false
set_option maxHeartbeats 4000000
set_option maxRecDepth 100000
/-! Q14: the law's comparison, of a thing with itself. -/
namespace PW
def okD : Nat → D → Prop
  | 0, _ => False
  | _ + 1, .non => True
  | _ + 1, .bl _ => True
  | _ + 1, .int _ => True
  | _ + 1, .str s => s.all fun c => decide (c < 0x110000)
  | n + 1, .tup ds => ds.length ≤ 100000 ∧ ∀ d ∈ ds, okD n d
  | n + 1, .lst ds => ds.length ≤ 100000 ∧ ∀ d ∈ ds, okD n d
  | _ + 1, _ => False
def φ__law_sameN (n : Nat) : FSpec := fun ss q _ => ∃ d, okD n d ∧ ss = [.sh d, .sh d] ∧ ∀ os, q (.sh (.bl true)) os
theorem len__law_sameN (n : Nat) : ∀ ss q e, φ__law_sameN n ss q e → ss.length = 2 := by rintro ss q e ⟨d, _, rfl, _⟩; rfl
theorem no__law_sameN : ∀ ss q e, ¬ φ__law_sameN 0 ss q e := by rintro ss q e ⟨d, h, _⟩; exact h
def w__law_same (φ__law_same : PW.FSpec) : PW.WS :=
 (PW.sSeq (PW.sIf (PW.tB (PW.wLk PW.fIsNone (PW.rN 1)))
 (PW.sRet (PW.wLk PW.fIsNone (PW.rN 0)))
 PW.sPass)
 (PW.sSeq (PW.sIf (PW.tB (PW.wLk (PW.fIs .bool) (PW.rN 1)))
 (PW.sRet (PW.wAnd (PW.wLk (PW.fIs .bool) (PW.rN 0)) (PW.wLkB PW.fEq (PW.rN 0) (PW.rN 1))))
 PW.sPass)
 (PW.sSeq (PW.sIf (PW.tB (PW.wLk (PW.fIs .int) (PW.rN 1)))
 (PW.sRet (PW.wAnd (PW.wLk (PW.fIs .int) (PW.rN 0)) (PW.wAnd (PW.wNot (PW.tTr (PW.rE (PW.wLk (PW.fIs .bool) (PW.rN 0))))) (PW.wLkB PW.fEq (PW.rN 0) (PW.rN 1)))))
 PW.sPass)
 (PW.sSeq (PW.sIf (PW.tB (PW.wLk (PW.fIs .str) (PW.rN 1)))
 (PW.sRet (PW.wAnd (PW.wLk (PW.fIs .str) (PW.rN 0)) (PW.wLkB PW.fEq (PW.rN 0) (PW.rN 1))))
 PW.sPass)
 (PW.sSeq (PW.sIf (PW.tAnd (PW.tB (PW.wLk (PW.fIs .list) (PW.rN 1))) (PW.tNot (PW.tB (PW.wLk (PW.fIs .list) (PW.rN 0)))))
 (PW.sRet (PW.wC (.bl false)))
 PW.sPass)
 (PW.sSeq (PW.sIf (PW.tAnd (PW.tB (PW.wLk (PW.fIs .tuple) (PW.rN 1))) (PW.tNot (PW.tB (PW.wLk (PW.fIs .tuple) (PW.rN 0)))))
 (PW.sRet (PW.wC (.bl false)))
 PW.sPass)
 (PW.sSeq (PW.sIf (PW.tB (PW.wLkB PW.fNe (PW.rE (PW.wLk PW.fLen (PW.rN 0))) (PW.rE (PW.wLk PW.fLen (PW.rN 1)))))
 (PW.sRet (PW.wC (.bl false)))
 PW.sPass)
 (PW.sSeq (PW.sFor (PW.iRng1 (PW.wLk PW.fLen (PW.rN 1))) (PW.gN 2)
 (PW.sIf (PW.tNot (PW.tB (PW.wSh (PW.kCall φ__law_same [] (PW.bV (PW.wLk2 PW.fIx (PW.rN 0) (PW.wV 2)) (PW.bV (PW.wLk2 PW.fIx (PW.rN 1) (PW.wV 2)) PW.bNil))))))
 (PW.sRet (PW.wC (.bl false)))
 PW.sPass))
 (PW.sRet (PW.wC (.bl true)))))))))))

theorem hs__law_sameN (n : Nat) : Does (φ__law_sameN (n + 1)) 3 (w__law_same (φ__law_sameN n)) := by
  rintro ss q e ⟨d, hd, rfl, h⟩
  cases d with
  | non => simp [w__law_same, PW.sSeq, PW.sPass, PW.sBreak, PW.sCont, PW.sNever, PW.sExpr, PW.sSet, PW.sNew, PW.sPut, PW.sApp, PW.sFld, PW.sAsg, PW.sRet, PW.sRetN, PW.sRetF, PW.sRetO, PW.sIf, PW.sFor, PW.gN, PW.gT, PW.gUn, PW.wC, PW.wV, PW.rN, PW.rE, PW.peek, PW.wUn, PW.wBin, PW.wLk, PW.wLk2, PW.wLkR, PW.wLkB, PW.tB, PW.tTr, PW.truth, PW.tAnd, PW.tOr, PW.tNot, PW.tYes, PW.wAnd, PW.wOr, PW.wNot, PW.wIf, PW.wChain, PW.aNil, PW.aCons, PW.wTup, PW.nLst, PW.nCat, PW.nRep, PW.wPart, PW.fSl, PW.wSl, PW.nSl, PW.wSlL, PW.fAdd, PW.fSub, PW.fMul, PW.fFdiv, PW.fMod, PW.fPow, PW.fShl, PW.fShr, PW.fAnd, PW.fOr, PW.fXor, PW.fNeg, PW.fLt, PW.fLe, PW.fGt, PW.fGe, PW.fEq, PW.fNe, PW.fIsNone, PW.fIsntNone, PW.isNon, PW.fIn, PW.fNotIn, PW.fIx, PW.fLen, PW.fInt, PW.fAbs, PW.fMax2, PW.fMin2, PW.fTuple, PW.fList, PW.fMaxL, PW.fMinL, PW.fIs, PW.isTy, PW.fIsO, PW.fFld, PW.fCon, PW.fTab, PW.fInTab, PW.fNInTab, PW.plain, PW.plainL, PW.eqv, PW.eqvL, PW.small, PW.putO, PW.free, PW.isBo_sh, PW.isBo_un, PW.isBo_ow, PW.isBo_rd, PW.wipe, PW.unwipe, PW.isLst, PW.putF, PW.iSeq, PW.iStr, PW.iRng1, PW.iRng2, PW.iRngD, PW.iEnum, PW.iZip, PW.items, PW.bNil, PW.bV, PW.bB, PW.bR, PW.kCall, PW.kMeth, PW.kMake, PW.oV, PW.oR, PW.oB, PW.isObj, PW.isCls, PW.wSh, PW.nFr, PW.wInO, PW.wNInO, PW.call, PW.lent, PW.lentB, PW.lentR, PW.lentOk, PW.back_nil, PW.back_v, PW.back_r, PW.back_b, PW.entry, PW.noX, PW.b2i, PW.nLc, PW.fDget, PW.fDin, PW.fDnin, PW.fDlen, PW.nDit, PW.nDic, PW.sDput, PW.putKv, PW.dKv, PW.fSortSet, PW.wMt, PW.fSIndex, PW.fSFind, PW.isStr, PW.isLst1, PW.nLc2, PW.elt1, PW.elt2, line_eq]; exact h _
  | bl b => simp [w__law_same, PW.sSeq, PW.sPass, PW.sBreak, PW.sCont, PW.sNever, PW.sExpr, PW.sSet, PW.sNew, PW.sPut, PW.sApp, PW.sFld, PW.sAsg, PW.sRet, PW.sRetN, PW.sRetF, PW.sRetO, PW.sIf, PW.sFor, PW.gN, PW.gT, PW.gUn, PW.wC, PW.wV, PW.rN, PW.rE, PW.peek, PW.wUn, PW.wBin, PW.wLk, PW.wLk2, PW.wLkR, PW.wLkB, PW.tB, PW.tTr, PW.truth, PW.tAnd, PW.tOr, PW.tNot, PW.tYes, PW.wAnd, PW.wOr, PW.wNot, PW.wIf, PW.wChain, PW.aNil, PW.aCons, PW.wTup, PW.nLst, PW.nCat, PW.nRep, PW.wPart, PW.fSl, PW.wSl, PW.nSl, PW.wSlL, PW.fAdd, PW.fSub, PW.fMul, PW.fFdiv, PW.fMod, PW.fPow, PW.fShl, PW.fShr, PW.fAnd, PW.fOr, PW.fXor, PW.fNeg, PW.fLt, PW.fLe, PW.fGt, PW.fGe, PW.fEq, PW.fNe, PW.fIsNone, PW.fIsntNone, PW.isNon, PW.fIn, PW.fNotIn, PW.fIx, PW.fLen, PW.fInt, PW.fAbs, PW.fMax2, PW.fMin2, PW.fTuple, PW.fList, PW.fMaxL, PW.fMinL, PW.fIs, PW.isTy, PW.fIsO, PW.fFld, PW.fCon, PW.fTab, PW.fInTab, PW.fNInTab, PW.plain, PW.plainL, PW.eqv, PW.eqvL, PW.small, PW.putO, PW.free, PW.isBo_sh, PW.isBo_un, PW.isBo_ow, PW.isBo_rd, PW.wipe, PW.unwipe, PW.isLst, PW.putF, PW.iSeq, PW.iStr, PW.iRng1, PW.iRng2, PW.iRngD, PW.iEnum, PW.iZip, PW.items, PW.bNil, PW.bV, PW.bB, PW.bR, PW.kCall, PW.kMeth, PW.kMake, PW.oV, PW.oR, PW.oB, PW.isObj, PW.isCls, PW.wSh, PW.nFr, PW.wInO, PW.wNInO, PW.call, PW.lent, PW.lentB, PW.lentR, PW.lentOk, PW.back_nil, PW.back_v, PW.back_r, PW.back_b, PW.entry, PW.noX, PW.b2i, PW.nLc, PW.fDget, PW.fDin, PW.fDnin, PW.fDlen, PW.nDit, PW.nDic, PW.sDput, PW.putKv, PW.dKv, PW.fSortSet, PW.wMt, PW.fSIndex, PW.fSFind, PW.isStr, PW.isLst1, PW.nLc2, PW.elt1, PW.elt2, line_eq]; exact h _
  | int i => simp [w__law_same, PW.sSeq, PW.sPass, PW.sBreak, PW.sCont, PW.sNever, PW.sExpr, PW.sSet, PW.sNew, PW.sPut, PW.sApp, PW.sFld, PW.sAsg, PW.sRet, PW.sRetN, PW.sRetF, PW.sRetO, PW.sIf, PW.sFor, PW.gN, PW.gT, PW.gUn, PW.wC, PW.wV, PW.rN, PW.rE, PW.peek, PW.wUn, PW.wBin, PW.wLk, PW.wLk2, PW.wLkR, PW.wLkB, PW.tB, PW.tTr, PW.truth, PW.tAnd, PW.tOr, PW.tNot, PW.tYes, PW.wAnd, PW.wOr, PW.wNot, PW.wIf, PW.wChain, PW.aNil, PW.aCons, PW.wTup, PW.nLst, PW.nCat, PW.nRep, PW.wPart, PW.fSl, PW.wSl, PW.nSl, PW.wSlL, PW.fAdd, PW.fSub, PW.fMul, PW.fFdiv, PW.fMod, PW.fPow, PW.fShl, PW.fShr, PW.fAnd, PW.fOr, PW.fXor, PW.fNeg, PW.fLt, PW.fLe, PW.fGt, PW.fGe, PW.fEq, PW.fNe, PW.fIsNone, PW.fIsntNone, PW.isNon, PW.fIn, PW.fNotIn, PW.fIx, PW.fLen, PW.fInt, PW.fAbs, PW.fMax2, PW.fMin2, PW.fTuple, PW.fList, PW.fMaxL, PW.fMinL, PW.fIs, PW.isTy, PW.fIsO, PW.fFld, PW.fCon, PW.fTab, PW.fInTab, PW.fNInTab, PW.plain, PW.plainL, PW.eqv, PW.eqvL, PW.small, PW.putO, PW.free, PW.isBo_sh, PW.isBo_un, PW.isBo_ow, PW.isBo_rd, PW.wipe, PW.unwipe, PW.isLst, PW.putF, PW.iSeq, PW.iStr, PW.iRng1, PW.iRng2, PW.iRngD, PW.iEnum, PW.iZip, PW.items, PW.bNil, PW.bV, PW.bB, PW.bR, PW.kCall, PW.kMeth, PW.kMake, PW.oV, PW.oR, PW.oB, PW.isObj, PW.isCls, PW.wSh, PW.nFr, PW.wInO, PW.wNInO, PW.call, PW.lent, PW.lentB, PW.lentR, PW.lentOk, PW.back_nil, PW.back_v, PW.back_r, PW.back_b, PW.entry, PW.noX, PW.b2i, PW.nLc, PW.fDget, PW.fDin, PW.fDnin, PW.fDlen, PW.nDit, PW.nDic, PW.sDput, PW.putKv, PW.dKv, PW.fSortSet, PW.wMt, PW.fSIndex, PW.fSFind, PW.isStr, PW.isLst1, PW.nLc2, PW.elt1, PW.elt2, line_eq]; exact h _
  | str s =>
    have hs : (s.all fun c => decide (c < 0x110000)) = true := hd
    simp [w__law_same, PW.sSeq, PW.sPass, PW.sBreak, PW.sCont, PW.sNever, PW.sExpr, PW.sSet, PW.sNew, PW.sPut, PW.sApp, PW.sFld, PW.sAsg, PW.sRet, PW.sRetN, PW.sRetF, PW.sRetO, PW.sIf, PW.sFor, PW.gN, PW.gT, PW.gUn, PW.wC, PW.wV, PW.rN, PW.rE, PW.peek, PW.wUn, PW.wBin, PW.wLk, PW.wLk2, PW.wLkR, PW.wLkB, PW.tB, PW.tTr, PW.truth, PW.tAnd, PW.tOr, PW.tNot, PW.tYes, PW.wAnd, PW.wOr, PW.wNot, PW.wIf, PW.wChain, PW.aNil, PW.aCons, PW.wTup, PW.nLst, PW.nCat, PW.nRep, PW.wPart, PW.fSl, PW.wSl, PW.nSl, PW.wSlL, PW.fAdd, PW.fSub, PW.fMul, PW.fFdiv, PW.fMod, PW.fPow, PW.fShl, PW.fShr, PW.fAnd, PW.fOr, PW.fXor, PW.fNeg, PW.fLt, PW.fLe, PW.fGt, PW.fGe, PW.fEq, PW.fNe, PW.fIsNone, PW.fIsntNone, PW.isNon, PW.fIn, PW.fNotIn, PW.fIx, PW.fLen, PW.fInt, PW.fAbs, PW.fMax2, PW.fMin2, PW.fTuple, PW.fList, PW.fMaxL, PW.fMinL, PW.fIs, PW.isTy, PW.fIsO, PW.fFld, PW.fCon, PW.fTab, PW.fInTab, PW.fNInTab, PW.plain, PW.plainL, PW.eqv, PW.eqvL, PW.small, PW.putO, PW.free, PW.isBo_sh, PW.isBo_un, PW.isBo_ow, PW.isBo_rd, PW.wipe, PW.unwipe, PW.isLst, PW.putF, PW.iSeq, PW.iStr, PW.iRng1, PW.iRng2, PW.iRngD, PW.iEnum, PW.iZip, PW.items, PW.bNil, PW.bV, PW.bB, PW.bR, PW.kCall, PW.kMeth, PW.kMake, PW.oV, PW.oR, PW.oB, PW.isObj, PW.isCls, PW.wSh, PW.nFr, PW.wInO, PW.wNInO, PW.call, PW.lent, PW.lentB, PW.lentR, PW.lentOk, PW.back_nil, PW.back_v, PW.back_r, PW.back_b, PW.entry, PW.noX, PW.b2i, PW.nLc, PW.fDget, PW.fDin, PW.fDnin, PW.fDlen, PW.nDit, PW.nDic, PW.sDput, PW.putKv, PW.dKv, PW.fSortSet, PW.wMt, PW.fSIndex, PW.fSFind, PW.isStr, PW.isLst1, PW.nLc2, PW.elt1, PW.elt2, line_eq]
    exact ⟨by simpa using hs, h _⟩
  | tup ds =>
    obtain ⟨h1, h2⟩ := hd
    have hr : rngB (ds.length : Int) := by unfold rngB; omega
    simp [w__law_same, PW.sSeq, PW.sPass, PW.sBreak, PW.sCont, PW.sNever, PW.sExpr, PW.sSet, PW.sNew, PW.sPut, PW.sApp, PW.sFld, PW.sAsg, PW.sRet, PW.sRetN, PW.sRetF, PW.sRetO, PW.sIf, PW.sFor, PW.gN, PW.gT, PW.gUn, PW.wC, PW.wV, PW.rN, PW.rE, PW.peek, PW.wUn, PW.wBin, PW.wLk, PW.wLk2, PW.wLkR, PW.wLkB, PW.tB, PW.tTr, PW.truth, PW.tAnd, PW.tOr, PW.tNot, PW.tYes, PW.wAnd, PW.wOr, PW.wNot, PW.wIf, PW.wChain, PW.aNil, PW.aCons, PW.wTup, PW.nLst, PW.nCat, PW.nRep, PW.wPart, PW.fSl, PW.wSl, PW.nSl, PW.wSlL, PW.fAdd, PW.fSub, PW.fMul, PW.fFdiv, PW.fMod, PW.fPow, PW.fShl, PW.fShr, PW.fAnd, PW.fOr, PW.fXor, PW.fNeg, PW.fLt, PW.fLe, PW.fGt, PW.fGe, PW.fEq, PW.fNe, PW.fIsNone, PW.fIsntNone, PW.isNon, PW.fIn, PW.fNotIn, PW.fIx, PW.fLen, PW.fInt, PW.fAbs, PW.fMax2, PW.fMin2, PW.fTuple, PW.fList, PW.fMaxL, PW.fMinL, PW.fIs, PW.isTy, PW.fIsO, PW.fFld, PW.fCon, PW.fTab, PW.fInTab, PW.fNInTab, PW.plain, PW.plainL, PW.eqv, PW.eqvL, PW.small, PW.putO, PW.free, PW.isBo_sh, PW.isBo_un, PW.isBo_ow, PW.isBo_rd, PW.wipe, PW.unwipe, PW.isLst, PW.putF, PW.iSeq, PW.iStr, PW.iRng1, PW.iRng2, PW.iRngD, PW.iEnum, PW.iZip, PW.items, PW.bNil, PW.bV, PW.bB, PW.bR, PW.kCall, PW.kMeth, PW.kMake, PW.oV, PW.oR, PW.oB, PW.isObj, PW.isCls, PW.wSh, PW.nFr, PW.wInO, PW.wNInO, PW.call, PW.lent, PW.lentB, PW.lentR, PW.lentOk, PW.back_nil, PW.back_v, PW.back_r, PW.back_b, PW.entry, PW.noX, PW.b2i, PW.nLc, PW.fDget, PW.fDin, PW.fDnin, PW.fDlen, PW.nDit, PW.nDic, PW.sDput, PW.putKv, PW.dKv, PW.fSortSet, PW.wMt, PW.fSIndex, PW.fSFind, PW.isStr, PW.isLst1, PW.nLc2, PW.elt1, PW.elt2, line_eq, hr]
    refine loop_ix _ (fun i ρ => ∃ k, isBo k = false ∧ ρ = [.sh (.tup ds), .sh (.tup ds), k]) ⟨.un, rfl, rfl⟩ ?_ ?_
    · rintro i x ρ K hx ⟨k, hk, rfl⟩ hK
      obtain ⟨hi, rfl⟩ := rng_some hx
      simp [PW.sSeq, PW.sPass, PW.sBreak, PW.sCont, PW.sNever, PW.sExpr, PW.sSet, PW.sNew, PW.sPut, PW.sApp, PW.sFld, PW.sAsg, PW.sRet, PW.sRetN, PW.sRetF, PW.sRetO, PW.sIf, PW.sFor, PW.gN, PW.gT, PW.gUn, PW.wC, PW.wV, PW.rN, PW.rE, PW.peek, PW.wUn, PW.wBin, PW.wLk, PW.wLk2, PW.wLkR, PW.wLkB, PW.tB, PW.tTr, PW.truth, PW.tAnd, PW.tOr, PW.tNot, PW.tYes, PW.wAnd, PW.wOr, PW.wNot, PW.wIf, PW.wChain, PW.aNil, PW.aCons, PW.wTup, PW.nLst, PW.nCat, PW.nRep, PW.wPart, PW.fSl, PW.wSl, PW.nSl, PW.wSlL, PW.fAdd, PW.fSub, PW.fMul, PW.fFdiv, PW.fMod, PW.fPow, PW.fShl, PW.fShr, PW.fAnd, PW.fOr, PW.fXor, PW.fNeg, PW.fLt, PW.fLe, PW.fGt, PW.fGe, PW.fEq, PW.fNe, PW.fIsNone, PW.fIsntNone, PW.isNon, PW.fIn, PW.fNotIn, PW.fIx, PW.fLen, PW.fInt, PW.fAbs, PW.fMax2, PW.fMin2, PW.fTuple, PW.fList, PW.fMaxL, PW.fMinL, PW.fIs, PW.isTy, PW.fIsO, PW.fFld, PW.fCon, PW.fTab, PW.fInTab, PW.fNInTab, PW.plain, PW.plainL, PW.eqv, PW.eqvL, PW.small, PW.putO, PW.free, PW.isBo_sh, PW.isBo_un, PW.isBo_ow, PW.isBo_rd, PW.wipe, PW.unwipe, PW.isLst, PW.putF, PW.iSeq, PW.iStr, PW.iRng1, PW.iRng2, PW.iRngD, PW.iEnum, PW.iZip, PW.items, PW.bNil, PW.bV, PW.bB, PW.bR, PW.kCall, PW.kMeth, PW.kMake, PW.oV, PW.oR, PW.oB, PW.isObj, PW.isCls, PW.wSh, PW.nFr, PW.wInO, PW.wNInO, PW.call, PW.lent, PW.lentB, PW.lentR, PW.lentOk, PW.back_nil, PW.back_v, PW.back_r, PW.back_b, PW.entry, PW.noX, PW.b2i, PW.nLc, PW.fDget, PW.fDin, PW.fDnin, PW.fDlen, PW.nDit, PW.nDic, PW.sDput, PW.putKv, PW.dKv, PW.fSortSet, PW.wMt, PW.fSIndex, PW.fSFind, PW.isStr, PW.isLst1, PW.nLc2, PW.elt1, PW.elt2, line_eq, hk, atI_nat, hi]
      refine ⟨_, h2 _ (List.getElem_mem hi), rfl, fun os => ?_⟩
      simp [PW.sSeq, PW.sPass, PW.sBreak, PW.sCont, PW.sNever, PW.sExpr, PW.sSet, PW.sNew, PW.sPut, PW.sApp, PW.sFld, PW.sAsg, PW.sRet, PW.sRetN, PW.sRetF, PW.sRetO, PW.sIf, PW.sFor, PW.gN, PW.gT, PW.gUn, PW.wC, PW.wV, PW.rN, PW.rE, PW.peek, PW.wUn, PW.wBin, PW.wLk, PW.wLk2, PW.wLkR, PW.wLkB, PW.tB, PW.tTr, PW.truth, PW.tAnd, PW.tOr, PW.tNot, PW.tYes, PW.wAnd, PW.wOr, PW.wNot, PW.wIf, PW.wChain, PW.aNil, PW.aCons, PW.wTup, PW.nLst, PW.nCat, PW.nRep, PW.wPart, PW.fSl, PW.wSl, PW.nSl, PW.wSlL, PW.fAdd, PW.fSub, PW.fMul, PW.fFdiv, PW.fMod, PW.fPow, PW.fShl, PW.fShr, PW.fAnd, PW.fOr, PW.fXor, PW.fNeg, PW.fLt, PW.fLe, PW.fGt, PW.fGe, PW.fEq, PW.fNe, PW.fIsNone, PW.fIsntNone, PW.isNon, PW.fIn, PW.fNotIn, PW.fIx, PW.fLen, PW.fInt, PW.fAbs, PW.fMax2, PW.fMin2, PW.fTuple, PW.fList, PW.fMaxL, PW.fMinL, PW.fIs, PW.isTy, PW.fIsO, PW.fFld, PW.fCon, PW.fTab, PW.fInTab, PW.fNInTab, PW.plain, PW.plainL, PW.eqv, PW.eqvL, PW.small, PW.putO, PW.free, PW.isBo_sh, PW.isBo_un, PW.isBo_ow, PW.isBo_rd, PW.wipe, PW.unwipe, PW.isLst, PW.putF, PW.iSeq, PW.iStr, PW.iRng1, PW.iRng2, PW.iRngD, PW.iEnum, PW.iZip, PW.items, PW.bNil, PW.bV, PW.bB, PW.bR, PW.kCall, PW.kMeth, PW.kMake, PW.oV, PW.oR, PW.oB, PW.isObj, PW.isCls, PW.wSh, PW.nFr, PW.wInO, PW.wNInO, PW.call, PW.lent, PW.lentB, PW.lentR, PW.lentOk, PW.back_nil, PW.back_v, PW.back_r, PW.back_b, PW.entry, PW.noX, PW.b2i, PW.nLc, PW.fDget, PW.fDin, PW.fDnin, PW.fDlen, PW.nDit, PW.nDic, PW.sDput, PW.putKv, PW.dKv, PW.fSortSet, PW.wMt, PW.fSIndex, PW.fSFind, PW.isStr, PW.isLst1, PW.nLc2, PW.elt1, PW.elt2]
      exact hK _ ⟨.sh (.int i), rfl, rfl⟩
    · rintro ρ ⟨k, hk, rfl⟩
      simp [PW.sSeq, PW.sPass, PW.sBreak, PW.sCont, PW.sNever, PW.sExpr, PW.sSet, PW.sNew, PW.sPut, PW.sApp, PW.sFld, PW.sAsg, PW.sRet, PW.sRetN, PW.sRetF, PW.sRetO, PW.sIf, PW.sFor, PW.gN, PW.gT, PW.gUn, PW.wC, PW.wV, PW.rN, PW.rE, PW.peek, PW.wUn, PW.wBin, PW.wLk, PW.wLk2, PW.wLkR, PW.wLkB, PW.tB, PW.tTr, PW.truth, PW.tAnd, PW.tOr, PW.tNot, PW.tYes, PW.wAnd, PW.wOr, PW.wNot, PW.wIf, PW.wChain, PW.aNil, PW.aCons, PW.wTup, PW.nLst, PW.nCat, PW.nRep, PW.wPart, PW.fSl, PW.wSl, PW.nSl, PW.wSlL, PW.fAdd, PW.fSub, PW.fMul, PW.fFdiv, PW.fMod, PW.fPow, PW.fShl, PW.fShr, PW.fAnd, PW.fOr, PW.fXor, PW.fNeg, PW.fLt, PW.fLe, PW.fGt, PW.fGe, PW.fEq, PW.fNe, PW.fIsNone, PW.fIsntNone, PW.isNon, PW.fIn, PW.fNotIn, PW.fIx, PW.fLen, PW.fInt, PW.fAbs, PW.fMax2, PW.fMin2, PW.fTuple, PW.fList, PW.fMaxL, PW.fMinL, PW.fIs, PW.isTy, PW.fIsO, PW.fFld, PW.fCon, PW.fTab, PW.fInTab, PW.fNInTab, PW.plain, PW.plainL, PW.eqv, PW.eqvL, PW.small, PW.putO, PW.free, PW.isBo_sh, PW.isBo_un, PW.isBo_ow, PW.isBo_rd, PW.wipe, PW.unwipe, PW.isLst, PW.putF, PW.iSeq, PW.iStr, PW.iRng1, PW.iRng2, PW.iRngD, PW.iEnum, PW.iZip, PW.items, PW.bNil, PW.bV, PW.bB, PW.bR, PW.kCall, PW.kMeth, PW.kMake, PW.oV, PW.oR, PW.oB, PW.isObj, PW.isCls, PW.wSh, PW.nFr, PW.wInO, PW.wNInO, PW.call, PW.lent, PW.lentB, PW.lentR, PW.lentOk, PW.back_nil, PW.back_v, PW.back_r, PW.back_b, PW.entry, PW.noX, PW.b2i, PW.nLc, PW.fDget, PW.fDin, PW.fDnin, PW.fDlen, PW.nDit, PW.nDic, PW.sDput, PW.putKv, PW.dKv, PW.fSortSet, PW.wMt, PW.fSIndex, PW.fSFind, PW.isStr, PW.isLst1, PW.nLc2, PW.elt1, PW.elt2, line_eq]
      exact h _
  | lst ds => 
    obtain ⟨h1, h2⟩ := hd
    have hr : rngB (ds.length : Int) := by unfold rngB; omega
    simp [w__law_same, PW.sSeq, PW.sPass, PW.sBreak, PW.sCont, PW.sNever, PW.sExpr, PW.sSet, PW.sNew, PW.sPut, PW.sApp, PW.sFld, PW.sAsg, PW.sRet, PW.sRetN, PW.sRetF, PW.sRetO, PW.sIf, PW.sFor, PW.gN, PW.gT, PW.gUn, PW.wC, PW.wV, PW.rN, PW.rE, PW.peek, PW.wUn, PW.wBin, PW.wLk, PW.wLk2, PW.wLkR, PW.wLkB, PW.tB, PW.tTr, PW.truth, PW.tAnd, PW.tOr, PW.tNot, PW.tYes, PW.wAnd, PW.wOr, PW.wNot, PW.wIf, PW.wChain, PW.aNil, PW.aCons, PW.wTup, PW.nLst, PW.nCat, PW.nRep, PW.wPart, PW.fSl, PW.wSl, PW.nSl, PW.wSlL, PW.fAdd, PW.fSub, PW.fMul, PW.fFdiv, PW.fMod, PW.fPow, PW.fShl, PW.fShr, PW.fAnd, PW.fOr, PW.fXor, PW.fNeg, PW.fLt, PW.fLe, PW.fGt, PW.fGe, PW.fEq, PW.fNe, PW.fIsNone, PW.fIsntNone, PW.isNon, PW.fIn, PW.fNotIn, PW.fIx, PW.fLen, PW.fInt, PW.fAbs, PW.fMax2, PW.fMin2, PW.fTuple, PW.fList, PW.fMaxL, PW.fMinL, PW.fIs, PW.isTy, PW.fIsO, PW.fFld, PW.fCon, PW.fTab, PW.fInTab, PW.fNInTab, PW.plain, PW.plainL, PW.eqv, PW.eqvL, PW.small, PW.putO, PW.free, PW.isBo_sh, PW.isBo_un, PW.isBo_ow, PW.isBo_rd, PW.wipe, PW.unwipe, PW.isLst, PW.putF, PW.iSeq, PW.iStr, PW.iRng1, PW.iRng2, PW.iRngD, PW.iEnum, PW.iZip, PW.items, PW.bNil, PW.bV, PW.bB, PW.bR, PW.kCall, PW.kMeth, PW.kMake, PW.oV, PW.oR, PW.oB, PW.isObj, PW.isCls, PW.wSh, PW.nFr, PW.wInO, PW.wNInO, PW.call, PW.lent, PW.lentB, PW.lentR, PW.lentOk, PW.back_nil, PW.back_v, PW.back_r, PW.back_b, PW.entry, PW.noX, PW.b2i, PW.nLc, PW.fDget, PW.fDin, PW.fDnin, PW.fDlen, PW.nDit, PW.nDic, PW.sDput, PW.putKv, PW.dKv, PW.fSortSet, PW.wMt, PW.fSIndex, PW.fSFind, PW.isStr, PW.isLst1, PW.nLc2, PW.elt1, PW.elt2, line_eq, hr]
    refine loop_ix _ (fun i ρ => ∃ k, isBo k = false ∧ ρ = [.sh (.lst ds), .sh (.lst ds), k]) ⟨.un, rfl, rfl⟩ ?_ ?_
    · rintro i x ρ K hx ⟨k, hk, rfl⟩ hK
      obtain ⟨hi, rfl⟩ := rng_some hx
      simp [PW.sSeq, PW.sPass, PW.sBreak, PW.sCont, PW.sNever, PW.sExpr, PW.sSet, PW.sNew, PW.sPut, PW.sApp, PW.sFld, PW.sAsg, PW.sRet, PW.sRetN, PW.sRetF, PW.sRetO, PW.sIf, PW.sFor, PW.gN, PW.gT, PW.gUn, PW.wC, PW.wV, PW.rN, PW.rE, PW.peek, PW.wUn, PW.wBin, PW.wLk, PW.wLk2, PW.wLkR, PW.wLkB, PW.tB, PW.tTr, PW.truth, PW.tAnd, PW.tOr, PW.tNot, PW.tYes, PW.wAnd, PW.wOr, PW.wNot, PW.wIf, PW.wChain, PW.aNil, PW.aCons, PW.wTup, PW.nLst, PW.nCat, PW.nRep, PW.wPart, PW.fSl, PW.wSl, PW.nSl, PW.wSlL, PW.fAdd, PW.fSub, PW.fMul, PW.fFdiv, PW.fMod, PW.fPow, PW.fShl, PW.fShr, PW.fAnd, PW.fOr, PW.fXor, PW.fNeg, PW.fLt, PW.fLe, PW.fGt, PW.fGe, PW.fEq, PW.fNe, PW.fIsNone, PW.fIsntNone, PW.isNon, PW.fIn, PW.fNotIn, PW.fIx, PW.fLen, PW.fInt, PW.fAbs, PW.fMax2, PW.fMin2, PW.fTuple, PW.fList, PW.fMaxL, PW.fMinL, PW.fIs, PW.isTy, PW.fIsO, PW.fFld, PW.fCon, PW.fTab, PW.fInTab, PW.fNInTab, PW.plain, PW.plainL, PW.eqv, PW.eqvL, PW.small, PW.putO, PW.free, PW.isBo_sh, PW.isBo_un, PW.isBo_ow, PW.isBo_rd, PW.wipe, PW.unwipe, PW.isLst, PW.putF, PW.iSeq, PW.iStr, PW.iRng1, PW.iRng2, PW.iRngD, PW.iEnum, PW.iZip, PW.items, PW.bNil, PW.bV, PW.bB, PW.bR, PW.kCall, PW.kMeth, PW.kMake, PW.oV, PW.oR, PW.oB, PW.isObj, PW.isCls, PW.wSh, PW.nFr, PW.wInO, PW.wNInO, PW.call, PW.lent, PW.lentB, PW.lentR, PW.lentOk, PW.back_nil, PW.back_v, PW.back_r, PW.back_b, PW.entry, PW.noX, PW.b2i, PW.nLc, PW.fDget, PW.fDin, PW.fDnin, PW.fDlen, PW.nDit, PW.nDic, PW.sDput, PW.putKv, PW.dKv, PW.fSortSet, PW.wMt, PW.fSIndex, PW.fSFind, PW.isStr, PW.isLst1, PW.nLc2, PW.elt1, PW.elt2, line_eq, hk, atI_nat, hi]
      refine ⟨_, h2 _ (List.getElem_mem hi), rfl, fun os => ?_⟩
      simp [PW.sSeq, PW.sPass, PW.sBreak, PW.sCont, PW.sNever, PW.sExpr, PW.sSet, PW.sNew, PW.sPut, PW.sApp, PW.sFld, PW.sAsg, PW.sRet, PW.sRetN, PW.sRetF, PW.sRetO, PW.sIf, PW.sFor, PW.gN, PW.gT, PW.gUn, PW.wC, PW.wV, PW.rN, PW.rE, PW.peek, PW.wUn, PW.wBin, PW.wLk, PW.wLk2, PW.wLkR, PW.wLkB, PW.tB, PW.tTr, PW.truth, PW.tAnd, PW.tOr, PW.tNot, PW.tYes, PW.wAnd, PW.wOr, PW.wNot, PW.wIf, PW.wChain, PW.aNil, PW.aCons, PW.wTup, PW.nLst, PW.nCat, PW.nRep, PW.wPart, PW.fSl, PW.wSl, PW.nSl, PW.wSlL, PW.fAdd, PW.fSub, PW.fMul, PW.fFdiv, PW.fMod, PW.fPow, PW.fShl, PW.fShr, PW.fAnd, PW.fOr, PW.fXor, PW.fNeg, PW.fLt, PW.fLe, PW.fGt, PW.fGe, PW.fEq, PW.fNe, PW.fIsNone, PW.fIsntNone, PW.isNon, PW.fIn, PW.fNotIn, PW.fIx, PW.fLen, PW.fInt, PW.fAbs, PW.fMax2, PW.fMin2, PW.fTuple, PW.fList, PW.fMaxL, PW.fMinL, PW.fIs, PW.isTy, PW.fIsO, PW.fFld, PW.fCon, PW.fTab, PW.fInTab, PW.fNInTab, PW.plain, PW.plainL, PW.eqv, PW.eqvL, PW.small, PW.putO, PW.free, PW.isBo_sh, PW.isBo_un, PW.isBo_ow, PW.isBo_rd, PW.wipe, PW.unwipe, PW.isLst, PW.putF, PW.iSeq, PW.iStr, PW.iRng1, PW.iRng2, PW.iRngD, PW.iEnum, PW.iZip, PW.items, PW.bNil, PW.bV, PW.bB, PW.bR, PW.kCall, PW.kMeth, PW.kMake, PW.oV, PW.oR, PW.oB, PW.isObj, PW.isCls, PW.wSh, PW.nFr, PW.wInO, PW.wNInO, PW.call, PW.lent, PW.lentB, PW.lentR, PW.lentOk, PW.back_nil, PW.back_v, PW.back_r, PW.back_b, PW.entry, PW.noX, PW.b2i, PW.nLc, PW.fDget, PW.fDin, PW.fDnin, PW.fDlen, PW.nDit, PW.nDic, PW.sDput, PW.putKv, PW.dKv, PW.fSortSet, PW.wMt, PW.fSIndex, PW.fSFind, PW.isStr, PW.isLst1, PW.nLc2, PW.elt1, PW.elt2]
      exact hK _ ⟨.sh (.int i), rfl, rfl⟩
    · rintro ρ ⟨k, hk, rfl⟩
      simp [PW.sSeq, PW.sPass, PW.sBreak, PW.sCont, PW.sNever, PW.sExpr, PW.sSet, PW.sNew, PW.sPut, PW.sApp, PW.sFld, PW.sAsg, PW.sRet, PW.sRetN, PW.sRetF, PW.sRetO, PW.sIf, PW.sFor, PW.gN, PW.gT, PW.gUn, PW.wC, PW.wV, PW.rN, PW.rE, PW.peek, PW.wUn, PW.wBin, PW.wLk, PW.wLk2, PW.wLkR, PW.wLkB, PW.tB, PW.tTr, PW.truth, PW.tAnd, PW.tOr, PW.tNot, PW.tYes, PW.wAnd, PW.wOr, PW.wNot, PW.wIf, PW.wChain, PW.aNil, PW.aCons, PW.wTup, PW.nLst, PW.nCat, PW.nRep, PW.wPart, PW.fSl, PW.wSl, PW.nSl, PW.wSlL, PW.fAdd, PW.fSub, PW.fMul, PW.fFdiv, PW.fMod, PW.fPow, PW.fShl, PW.fShr, PW.fAnd, PW.fOr, PW.fXor, PW.fNeg, PW.fLt, PW.fLe, PW.fGt, PW.fGe, PW.fEq, PW.fNe, PW.fIsNone, PW.fIsntNone, PW.isNon, PW.fIn, PW.fNotIn, PW.fIx, PW.fLen, PW.fInt, PW.fAbs, PW.fMax2, PW.fMin2, PW.fTuple, PW.fList, PW.fMaxL, PW.fMinL, PW.fIs, PW.isTy, PW.fIsO, PW.fFld, PW.fCon, PW.fTab, PW.fInTab, PW.fNInTab, PW.plain, PW.plainL, PW.eqv, PW.eqvL, PW.small, PW.putO, PW.free, PW.isBo_sh, PW.isBo_un, PW.isBo_ow, PW.isBo_rd, PW.wipe, PW.unwipe, PW.isLst, PW.putF, PW.iSeq, PW.iStr, PW.iRng1, PW.iRng2, PW.iRngD, PW.iEnum, PW.iZip, PW.items, PW.bNil, PW.bV, PW.bB, PW.bR, PW.kCall, PW.kMeth, PW.kMake, PW.oV, PW.oR, PW.oB, PW.isObj, PW.isCls, PW.wSh, PW.nFr, PW.wInO, PW.wNInO, PW.call, PW.lent, PW.lentB, PW.lentR, PW.lentOk, PW.back_nil, PW.back_v, PW.back_r, PW.back_b, PW.entry, PW.noX, PW.b2i, PW.nLc, PW.fDget, PW.fDin, PW.fDnin, PW.fDlen, PW.nDit, PW.nDic, PW.sDput, PW.putKv, PW.dKv, PW.fSortSet, PW.wMt, PW.fSIndex, PW.fSFind, PW.isStr, PW.isLst1, PW.nLc2, PW.elt1, PW.elt2, line_eq]
      exact h _
  | dic _ => exact hd.elim
  | dit _ => exact hd.elim
  | obj _ _ => exact hd.elim
  | scr _ => exact hd.elim
def φ__law_same : FSpec := φ__law_sameN 4
end PW
end

section
set_option linter.all false
set_option maxHeartbeats 4000000
set_option maxRecDepth 100000
/-! G1: games on words: which words are alike behind k rounds. No program here. -/
namespace GM
/-- the letter at a place; place 0 has none -/
def lt (w : List Nat) (p : Nat) : List Nat := if p = 0 then [] else [w.getD (p - 1) 0]
def cmp (a b : Nat) : Int := (if a > b then 1 else 0) - (if a < b then 1 else 0)
abbrev Pairs := List (Nat × Nat)
def E : Nat → List Nat → List Nat → Pairs → Prop
  | 0, w, v, P => ∀ z ∈ P, (z.1 ≤ w.length ∧ z.2 ≤ v.length ∧ lt w z.1 = lt v z.2) ∧ ∀ z' ∈ P, cmp z.1 z'.1 = cmp z.2 z'.2
  | k + 1, w, v, P => (∀ a ≤ w.length, ∃ b ≤ v.length, E k w v ((a, b) :: P)) ∧ ∀ b ≤ v.length, ∃ a ≤ w.length, E k w v ((a, b) :: P)
theorem lt_nil {w : List Nat} {p : Nat} : lt w p = [] ↔ p = 0 := by
  unfold lt; split <;> simp [*]
theorem cmp_lt {a b : Nat} (h : a < b) : cmp a b = -1 := by unfold cmp; rw [if_neg (by omega), if_pos h]; rfl
theorem cmp_gt {a b : Nat} (h : b < a) : cmp a b = 1 := by unfold cmp; rw [if_pos h, if_neg (by omega)]; rfl
theorem cmp_self (a : Nat) : cmp a a = 0 := by unfold cmp; simp
theorem cmp_cases (a b : Nat) : (a < b ∧ cmp a b = -1) ∨ (a = b ∧ cmp a b = 0) ∨ (b < a ∧ cmp a b = 1) := by
  rcases Nat.lt_trichotomy a b with h | h | h
  · exact .inl ⟨h, cmp_lt h⟩
  · subst h; exact .inr (.inl ⟨rfl, cmp_self a⟩)
  · exact .inr (.inr ⟨h, cmp_gt h⟩)
theorem cmp_eq_iff {a b c d : Nat} : cmp a b = cmp c d ↔ ((a < b ↔ c < d) ∧ (b < a ↔ d < c)) := by
  rcases cmp_cases a b with ⟨h, e⟩ | ⟨h, e⟩ | ⟨h, e⟩ <;> rcases cmp_cases c d with ⟨h', e'⟩ | ⟨h', e'⟩ | ⟨h', e'⟩ <;> rw [e, e'] <;> simp <;> omega
theorem E.zero : ∀ {k : Nat} {w v : List Nat} {P : Pairs}, E k w v P → E 0 w v P
  | 0, _, _, _, h => h
  | k + 1, w, v, P, h => by
    obtain ⟨b, hb, h2⟩ := h.1 0 (Nat.zero_le _)
    have h3 := h2.zero
    exact fun z hz => ⟨(h3 z (List.mem_cons_of_mem _ hz)).1, fun z' hz' => (h3 z (List.mem_cons_of_mem _ hz)).2 z' (List.mem_cons_of_mem _ hz')⟩
theorem E.sub : ∀ {k : Nat} {w v : List Nat} {P P' : Pairs}, (∀ z ∈ P', z ∈ P) → E k w v P → E k w v P'
  | 0, _, _, _, _, s, h => fun z hz => ⟨(h z (s z hz)).1, fun z' hz' => (h z (s z hz)).2 z' (s z' hz')⟩
  | k + 1, w, v, P, P', s, h => by
    have s' : ∀ a b, ∀ z ∈ (a, b) :: P', z ∈ (a, b) :: P := fun a b z hz => by
      rcases List.mem_cons.mp hz with h | h
      · exact h ▸ List.mem_cons_self ..
      · exact List.mem_cons_of_mem _ (s z h)
    exact ⟨fun a ha => let ⟨b, hb, q⟩ := h.1 a ha; ⟨b, hb, q.sub (s' a b)⟩, fun b hb => let ⟨a, ha, q⟩ := h.2 b hb; ⟨a, ha, q.sub (s' a b)⟩⟩
theorem E.refl : ∀ (k : Nat) (w : List Nat) (P : Pairs), (∀ z ∈ P, z.1 = z.2 ∧ z.1 ≤ w.length) → E k w w P
  | 0, w, P, h => fun z hz => ⟨⟨(h z hz).2, (h z hz).1 ▸ (h z hz).2, by rw [(h z hz).1]⟩, fun z' hz' => by rw [(h z hz).1, (h z' hz').1]⟩
  | k + 1, w, P, h => by
    have q : ∀ a ≤ w.length, E k w w ((a, a) :: P) := fun a ha => E.refl k w _ fun z hz => by
      rcases List.mem_cons.mp hz with e | e
      · subst e; exact ⟨rfl, ha⟩
      · exact h z e
    exact ⟨fun a ha => ⟨a, ha, q a ha⟩, fun a ha => ⟨a, ha, q a ha⟩⟩
def sw (P : Pairs) : Pairs := P.map fun z => (z.2, z.1)
theorem E.symm : ∀ {k : Nat} {w v : List Nat} {P : Pairs}, E k w v P → E k v w (sw P)
  | 0, w, v, P, h => fun z hz => by
    obtain ⟨x, hx, rfl⟩ := List.mem_map.mp hz
    refine ⟨⟨(h x hx).1.2.1, (h x hx).1.1, (h x hx).1.2.2.symm⟩, fun z' hz' => ?_⟩
    obtain ⟨y, hy, rfl⟩ := List.mem_map.mp hz'
    exact ((h x hx).2 y hy).symm
  | k + 1, w, v, P, h => ⟨fun b hb => let ⟨a, ha, q⟩ := h.2 b hb; ⟨a, ha, q.symm⟩, fun a ha => let ⟨b, hb, q⟩ := h.1 a ha; ⟨b, hb, q.symm⟩⟩
/-- a pair is placed at 0 in both exactly if in one -/
theorem E.at0 {k : Nat} {w v : List Nat} {P : Pairs} (h : E k w v P) {z : Nat × Nat} (hz : z ∈ P) : z.1 = 0 ↔ z.2 = 0 := by
  rw [← @lt_nil w, ← @lt_nil v, (h.zero z hz).1.2.2]
theorem E.withZ : ∀ {k : Nat} {w v : List Nat} {P : Pairs}, E k w v P → E k w v ((0, 0) :: P)
  | 0, w, v, P, h => by
    have h0 : ∀ z ∈ P, (z.1 = 0 ↔ z.2 = 0) := fun z hz => E.at0 (k := 0) h hz
    intro z hz
    rcases List.mem_cons.mp hz with e | e
    · subst e
      refine ⟨⟨Nat.zero_le _, Nat.zero_le _, rfl⟩, fun z' hz' => ?_⟩
      rcases List.mem_cons.mp hz' with e | e
      · subst e; rfl
      · have := h0 z' e; rw [cmp_eq_iff]; simp; omega
    · refine ⟨(h z e).1, fun z' hz' => ?_⟩
      rcases List.mem_cons.mp hz' with e' | e'
      · subst e'; have := h0 z e; rw [cmp_eq_iff]; simp; omega
      · exact (h z e).2 z' e'
  | k + 1, w, v, P, h => by
    have s : ∀ a b, ∀ z ∈ (a, b) :: (0, 0) :: P, z ∈ (0, 0) :: (a, b) :: P := fun a b z hz => by
      simp only [List.mem_cons] at hz ⊢; rcases hz with h | h | h <;> simp [h]
    exact ⟨fun a ha => let ⟨b, hb, q⟩ := h.1 a ha; ⟨b, hb, q.withZ.sub (s a b)⟩, fun b hb => let ⟨a, ha, q⟩ := h.2 b hb; ⟨a, ha, q.withZ.sub (s a b)⟩⟩
/-! ### words joined -/
def lf (n p : Nat) : Nat := if p ≤ n then p else 0
def rg (n p : Nat) : Nat := p - n
theorem lt_app (u v : List Nat) (p : Nat) : lt (u ++ v) p = if u.length < p then lt v (p - u.length) else lt u p := by
  unfold lt
  by_cases h : u.length < p
  · rw [if_pos h, if_neg (by omega), if_neg (by omega)]
    rw [List.getD_eq_getElem?_getD, List.getD_eq_getElem?_getD, List.getElem?_append_right (by omega)]
    congr 3; omega
  · rw [if_neg h]
    split
    · rfl
    · rw [List.getD_eq_getElem?_getD, List.getD_eq_getElem?_getD]
      by_cases q : p - 1 < u.length
      · rw [List.getElem?_append_left q]
      · omega
theorem cmp_split {n p q : Nat} : cmp p q = if cmp (rg n p) (rg n q) = 0 then cmp (lf n p) (lf n q) else cmp (rg n p) (rg n q) := by
  unfold lf rg
  rcases cmp_cases (p - n) (q - n) with ⟨h, e⟩ | ⟨h, e⟩ | ⟨h, e⟩
  · rw [e, if_neg (by decide), cmp_lt (by omega)]
  · rw [e, if_pos rfl]
    by_cases hp : p ≤ n
    · have hq : q ≤ n := by omega
      rw [if_pos hp, if_pos hq]
    · have hq : ¬ q ≤ n := by omega
      have : p = q := by omega
      subst this
      rw [if_neg hp, cmp_self, cmp_self]
  · rw [e, if_neg (by decide), cmp_gt (by omega)]
def prL (n m : Nat) (P : Pairs) : Pairs := P.map fun z => (lf n z.1, lf m z.2)
def prR (n m : Nat) (P : Pairs) : Pairs := P.map fun z => (rg n z.1, rg m z.2)
theorem E.app : ∀ {k : Nat} {u u' v v' : List Nat} {P : Pairs}, E k u u' (prL u.length u'.length P) → E k v v' (prR u.length u'.length P) → E k (u ++ v) (u' ++ v') P
  | 0, u, u', v, v', P, h1, h2 => by
    intro z hz
    have a1 := h1 _ (List.mem_map.mpr ⟨z, hz, rfl⟩)
    have a2 := h2 _ (List.mem_map.mpr ⟨z, hz, rfl⟩)
    simp only at a1 a2
    have side : u.length < z.1 ↔ u'.length < z.2 := by
      have := E.at0 (k := 0) h2 (List.mem_map.mpr ⟨z, hz, rfl⟩)
      simp only [rg] at this; omega
    refine ⟨⟨?_, ?_, ?_⟩, fun z' hz' => ?_⟩
    · have := a2.1.1; simp only [List.length_append, rg] at this ⊢; omega
    · have := a2.1.2.1; simp only [List.length_append, rg] at this ⊢; omega
    · rw [lt_app, lt_app]
      by_cases h : u.length < z.1
      · rw [if_pos h, if_pos (side.mp h)]; exact a2.1.2.2
      · rw [if_neg h, if_neg (fun q => h (side.mpr q))]
        have := a1.1.2.2
        simp only [lf] at this
        rwa [if_pos (by omega), if_pos (by omega)] at this
    · have c1 := a1.2 _ (List.mem_map.mpr ⟨z', hz', rfl⟩)
      have c2 := a2.2 _ (List.mem_map.mpr ⟨z', hz', rfl⟩)
      simp only at c1 c2
      rw [cmp_split (n := u.length) (p := z.1) (q := z'.1), cmp_split (n := u'.length) (p := z.2) (q := z'.2), c1, c2]
  | k + 1, u, u', v, v', P, h1, h2 => by
    have side : ∀ {w w' : List Nat} {Q : Pairs} {k : Nat}, E (k + 1) w w' Q → E k w w' ((0, 0) :: Q) := fun {w w' Q k} h => by
      obtain ⟨b, hb, q⟩ := h.1 0 (Nat.zero_le _)
      have e : b = 0 := (q.at0 (List.mem_cons_self ..)).mp rfl
      subst e; exact q
    constructor
    · intro a ha
      by_cases hl : a ≤ u.length
      · obtain ⟨b, hb, q⟩ := h1.1 a hl
        refine ⟨b, by rw [List.length_append]; omega, E.app ?_ ?_⟩
        · simpa [prL, lf, hl, hb] using q
        · have := side h2
          have e1 : a - u.length = 0 := by omega
          have e2 : b - u'.length = 0 := by omega
          simpa [prR, rg, e1, e2] using this
      · rw [List.length_append] at ha
        obtain ⟨b, hb, q⟩ := h2.1 (a - u.length) (by omega)
        have nz : b ≠ 0 := fun e => by
          have := (q.at0 (List.mem_cons_self ..)).mpr e
          simp only at this; omega
        refine ⟨b + u'.length, by rw [List.length_append]; omega, E.app ?_ ?_⟩
        · have e2 : ¬ b + u'.length ≤ u'.length := by omega
          simpa [prL, lf, hl, e2] using side h1
        · simpa [prR, rg] using q
    · intro b hb
      by_cases hl : b ≤ u'.length
      · obtain ⟨a, ha, q⟩ := h1.2 b hl
        refine ⟨a, by rw [List.length_append]; omega, E.app ?_ ?_⟩
        · simpa [prL, lf, hl, ha] using q
        · have := side h2
          have e1 : a - u.length = 0 := by omega
          have e2 : b - u'.length = 0 := by omega
          simpa [prR, rg, e1, e2] using this
      · rw [List.length_append] at hb
        obtain ⟨a, ha, q⟩ := h2.2 (b - u'.length) (by omega)
        have nz : a ≠ 0 := fun e => by
          have := (q.at0 (List.mem_cons_self ..)).mp e
          simp only at this; omega
        refine ⟨a + u.length, by rw [List.length_append]; omega, E.app ?_ ?_⟩
        · have e2 : ¬ a + u.length ≤ u.length := by omega
          simpa [prL, lf, hl, e2] using side h1
        · simpa [prR, rg] using q
/-- no places chosen -/
abbrev Al (k : Nat) (w v : List Nat) : Prop := E k w v []
theorem Al.app {k : Nat} {u u' v v' : List Nat} (h1 : Al k u u') (h2 : Al k v v') : Al k (u ++ v) (u' ++ v') := E.app h1 h2
theorem Al.refl (k : Nat) (w : List Nat) : Al k w w := E.refl k w [] fun z hz => nomatch hz
theorem Al.symm {k : Nat} {w v : List Nat} (h : Al k w v) : Al k v w := E.symm h
/-! ### powers -/
def pw (w : List Nat) : Nat → List Nat
  | 0 => []
  | n + 1 => w ++ pw w n
theorem pw_len (w : List Nat) (n : Nat) : (pw w n).length = n * w.length := by
  induction n with
  | zero => simp [pw]
  | succ n ih => simp [pw, ih, Nat.succ_mul]; omega
theorem pw_add (w : List Nat) (m n : Nat) : pw w (m + n) = pw w m ++ pw w n := by
  induction m with
  | zero => simp [pw]
  | succ m ih => rw [Nat.succ_add, pw, pw, ih, List.append_assoc]
theorem pw_split (w : List Nat) {n i : Nat} (h : i < n) : pw w n = pw w i ++ (w ++ pw w (n - 1 - i)) := by
  have e : n = i + (1 + (n - 1 - i)) := by omega
  conv => lhs; rw [e]
  rw [pw_add, pw_add]
  simp [pw]
/-- one step of the game on powers -/
theorem pow_step {k : Nat} (w : List Nat) (ih : ∀ m n, 2 ^ k - 1 ≤ m → 2 ^ k - 1 ≤ n → Al k (pw w m) (pw w n)) {m n : Nat} (hm : 2 ^ (k + 1) - 1 ≤ m) (hn : 2 ^ (k + 1) - 1 ≤ n) (a : Nat) (ha : a ≤ (pw w m).length) :
    ∃ b ≤ (pw w n).length, E k (pw w m) (pw w n) [(a, b)] := by
  have h2 : 2 ^ (k + 1) = 2 * 2 ^ k := by rw [Nat.pow_succ]; omega
  have hpos : 1 ≤ 2 ^ k := Nat.one_le_two_pow
  by_cases h0 : a = 0
  · subst h0
    exact ⟨0, Nat.zero_le _, (E.withZ (ih m n (by omega) (by omega)))⟩
  · have hw : 1 ≤ w.length := by
      rw [pw_len] at ha
      rcases Nat.eq_zero_or_pos w.length with e | e
      · rw [e] at ha; omega
      · exact e
    -- the copy that holds the place
    have hi : (a - 1) / w.length < m := by
      rw [pw_len] at ha
      exact (Nat.div_lt_iff_lt_mul hw).mpr (by omega)
    have key : ∀ j, j < n → Al k (pw w ((a - 1) / w.length)) (pw w j) → Al k (pw w (m - 1 - (a - 1) / w.length)) (pw w (n - 1 - j)) → ∃ b ≤ (pw w n).length, E k (pw w m) (pw w n) [(a, b)] := by
      intro j hj l r
      have hmod : a = (a - 1) / w.length * w.length + ((a - 1) % w.length + 1) := by
        have := Nat.div_add_mod (a - 1) w.length
        rw [Nat.mul_comm] at this; omega
      have hlt : (a - 1) % w.length < w.length := Nat.mod_lt _ hw
      generalize (a - 1) / w.length = i at *
      generalize (a - 1) % w.length = t at *
      subst hmod
      refine ⟨j * w.length + (t + 1), ?_, ?_⟩
      · rw [pw_len]
        have : (j + 1) * w.length ≤ n * w.length := Nat.mul_le_mul_right _ hj
        rw [Nat.succ_mul] at this; omega
      · rw [pw_split w hi, pw_split w hj]
        refine E.app ?_ (E.app ?_ ?_)
        · have e1 : ¬ i * w.length + (t + 1) ≤ i * w.length := by omega
          have e2 : ¬ j * w.length + (t + 1) ≤ j * w.length := by omega
          simpa [prL, lf, pw_len, e1, e2] using l.withZ
        · have e1 : t + 1 ≤ w.length := by omega
          simp only [prL, prR, lf, rg, pw_len, List.map_cons, List.map_nil, Nat.add_sub_cancel_left, if_pos e1]
          exact E.refl k w _ fun z hz => by simp at hz; subst hz; exact ⟨rfl, e1⟩
        · have e1 : t + 1 - w.length = 0 := by omega
          simpa [prR, rg, pw_len, Nat.add_sub_cancel_left, e1] using r.withZ
    by_cases c1 : (a - 1) / w.length < 2 ^ k - 1
    · exact key ((a - 1) / w.length) (by omega) (Al.refl _ _) (ih _ _ (by omega) (by omega))
    · by_cases c2 : m - 1 - (a - 1) / w.length < 2 ^ k - 1
      · refine key (n - 1 - (m - 1 - (a - 1) / w.length)) (by omega) (ih _ _ (by omega) (by omega)) ?_
        have e : n - 1 - (n - 1 - (m - 1 - (a - 1) / w.length)) = m - 1 - (a - 1) / w.length := by omega
        rw [e]; exact Al.refl _ _
      · exact key (2 ^ k - 1) (by omega) (ih _ _ (by omega) (by omega)) (ih _ _ (by omega) (by omega))
theorem pow_al (w : List Nat) : ∀ k m n, 2 ^ k - 1 ≤ m → 2 ^ k - 1 ≤ n → Al k (pw w m) (pw w n)
  | 0, m, n, _, _ => fun z hz => nomatch hz
  | k + 1, m, n, hm, hn => by
    refine ⟨fun a ha => pow_step w (pow_al w k) hm hn a ha, fun b hb => ?_⟩
    obtain ⟨a, ha, q⟩ := pow_step w (pow_al w k) hn hm b hb
    exact ⟨a, ha, q.symm⟩
end GM
end

section
set_option linter.all false
set_option maxHeartbeats 4000000
set_option maxRecDepth 100000
/-! G2: lengths, words turned, letters exchanged. -/
namespace GM
theorem lt_take {u : List Nat} {n p : Nat} (h : p ≤ n) (hn : n ≤ u.length) : lt (u.take n) p = lt u p := by
  unfold lt
  split
  · rfl
  · rw [List.getD_eq_getElem?_getD, List.getD_eq_getElem?_getD, List.getElem?_take]
    rw [if_pos (by omega)]
theorem lt_drop {u : List Nat} {n p : Nat} (h : p ≠ 0) : lt (u.drop n) p = lt u (p + n) := by
  unfold lt
  rw [if_neg h, if_neg (by omega), List.getD_eq_getElem?_getD, List.getD_eq_getElem?_getD, List.getElem?_drop]
  congr 3; omega
/-- the game ahead of a pair -/
theorem E.left : ∀ {k : Nat} {u v : List Nat} {P P' : Pairs} {a b : Nat}, E k u v P → (a, b) ∈ P → a ≠ 0 → (∀ z ∈ P', z ∈ P ∧ z.1 < a) → E k (u.take (a - 1)) (v.take (b - 1)) P'
  | 0, u, v, P, P', a, b, h, hab, ha, s => by
    obtain ⟨⟨ba, bb, _⟩, _⟩ := h _ hab
    have b0 : b ≠ 0 := fun e => ha ((E.at0 (k := 0) h hab).mpr e)
    have lt2 : ∀ z ∈ P', z.2 < b := fun z hz => by
      have := (h z (s z hz).1).2 _ hab
      rw [cmp_eq_iff] at this
      exact this.1.mp (s z hz).2
    simp only at ba bb
    intro z hz
    obtain ⟨hz1, hz2⟩ := s z hz
    have hz3 := lt2 z hz
    obtain ⟨⟨z1, z2, z3⟩, z4⟩ := h z hz1
    refine ⟨⟨by rw [List.length_take]; omega, by rw [List.length_take]; omega, ?_⟩, fun z' hz' => z4 z' (s z' hz').1⟩
    rw [lt_take (by omega) (by omega), lt_take (by omega) (by omega), z3]
  | k + 1, u, v, P, P', a, b, h, hab, ha, s => by
    obtain ⟨⟨ba, bb, _⟩, _⟩ := h.zero _ hab
    simp only at ba bb
    have b0 : b ≠ 0 := fun e => ha ((h.at0 hab).mpr e)
    constructor
    · intro p hp
      rw [List.length_take] at hp
      obtain ⟨q, hq, e⟩ := h.1 p (by omega)
      have lq : q < b := by
        have := (e.zero _ (List.mem_cons_self ..)).2 _ (List.mem_cons_of_mem _ hab)
        rw [cmp_eq_iff] at this
        exact this.1.mp (by simp only; omega)
      refine ⟨q, by rw [List.length_take]; omega, e.left (List.mem_cons_of_mem _ hab) ha fun z hz => ?_⟩
      rcases List.mem_cons.mp hz with w | w
      · subst w; exact ⟨List.mem_cons_self .., by simp only; omega⟩
      · exact ⟨List.mem_cons_of_mem _ (s z w).1, (s z w).2⟩
    · intro q hq
      rw [List.length_take] at hq
      obtain ⟨p, hp, e⟩ := h.2 q (by omega)
      have lp : p < a := by
        have := (e.zero _ (List.mem_cons_self ..)).2 _ (List.mem_cons_of_mem _ hab)
        rw [cmp_eq_iff] at this
        exact this.1.mpr (by simp only; omega)
      refine ⟨p, by rw [List.length_take]; omega, e.left (List.mem_cons_of_mem _ hab) ha fun z hz => ?_⟩
      rcases List.mem_cons.mp hz with w | w
      · subst w; exact ⟨List.mem_cons_self .., lp⟩
      · exact ⟨List.mem_cons_of_mem _ (s z w).1, (s z w).2⟩
/-- the game behind a pair -/
theorem E.right : ∀ {k : Nat} {u v : List Nat} {P P' : Pairs} {a b : Nat}, E k u v P → (a, b) ∈ P → (∀ z ∈ P', (z.1 = 0 ∧ z.2 = 0) ∨ (z.1 ≠ 0 ∧ z.2 ≠ 0 ∧ (z.1 + a, z.2 + b) ∈ P)) → E k (u.drop a) (v.drop b) P'
  | 0, u, v, P, P', a, b, h, hab, s => by
    obtain ⟨⟨ba, bb, _⟩, _⟩ := h _ hab
    simp only at ba bb
    intro z hz
    rcases s z hz with ⟨e1, e2⟩ | ⟨n1, n2, hz1⟩
    · refine ⟨⟨by omega, by omega, by rw [e1, e2]; rfl⟩, fun z' hz' => ?_⟩
      rw [e1, e2]
      rcases s z' hz' with ⟨e3, e4⟩ | ⟨n3, n4, _⟩
      · rw [e3, e4]
      · rw [cmp_eq_iff]; omega
    · obtain ⟨⟨z1, z2, z3⟩, z4⟩ := h _ hz1
      simp only at z1 z2 z3 z4
      refine ⟨⟨by rw [List.length_drop]; omega, by rw [List.length_drop]; omega, by rw [lt_drop n1, lt_drop n2, z3]⟩, fun z' hz' => ?_⟩
      rcases s z' hz' with ⟨e3, e4⟩ | ⟨n3, n4, hz2⟩
      · rw [e3, e4, cmp_eq_iff]; omega
      · have := z4 _ hz2
        rw [cmp_eq_iff] at this ⊢
        simp only at this; omega
  | k + 1, u, v, P, P', a, b, h, hab, s => by
    constructor
    · intro p hp
      rw [List.length_drop] at hp
      by_cases p0 : p = 0
      · subst p0
        obtain ⟨q, hq, e⟩ := h.1 0 (Nat.zero_le _)
        refine ⟨0, Nat.zero_le _, e.right (List.mem_cons_of_mem _ hab) fun z hz => ?_⟩
        rcases List.mem_cons.mp hz with w | w
        · subst w; exact .inl ⟨rfl, rfl⟩
        · rcases s z w with c | ⟨c1, c2, c3⟩
          · exact .inl c
          · exact .inr ⟨c1, c2, List.mem_cons_of_mem _ c3⟩
      · obtain ⟨q, hq, e⟩ := h.1 (p + a) (by omega)
        have lq : b < q := by
          have := (e.zero _ (List.mem_cons_self ..)).2 _ (List.mem_cons_of_mem _ hab)
          rw [cmp_eq_iff] at this
          exact this.2.mp (by simp only; omega)
        refine ⟨q - b, by rw [List.length_drop]; omega, e.right (List.mem_cons_of_mem _ hab) fun z hz => ?_⟩
        rcases List.mem_cons.mp hz with w | w
        · subst w
          refine .inr ⟨p0, by simp only; omega, ?_⟩
          have : q - b + b = q := by omega
          simp [this]
        · rcases s z w with c | ⟨c1, c2, c3⟩
          · exact .inl c
          · exact .inr ⟨c1, c2, List.mem_cons_of_mem _ c3⟩
    · intro q hq
      rw [List.length_drop] at hq
      by_cases q0 : q = 0
      · subst q0
        obtain ⟨p, hp, e⟩ := h.2 0 (Nat.zero_le _)
        refine ⟨0, Nat.zero_le _, e.right (List.mem_cons_of_mem _ hab) fun z hz => ?_⟩
        rcases List.mem_cons.mp hz with w | w
        · subst w; exact .inl ⟨rfl, rfl⟩
        · rcases s z w with c | ⟨c1, c2, c3⟩
          · exact .inl c
          · exact .inr ⟨c1, c2, List.mem_cons_of_mem _ c3⟩
      · obtain ⟨p, hp, e⟩ := h.2 (q + b) (by omega)
        have lp : a < p := by
          have := (e.zero _ (List.mem_cons_self ..)).2 _ (List.mem_cons_of_mem _ hab)
          rw [cmp_eq_iff] at this
          exact this.2.mpr (by simp only; omega)
        refine ⟨p - a, by rw [List.length_drop]; omega, e.right (List.mem_cons_of_mem _ hab) fun z hz => ?_⟩
        rcases List.mem_cons.mp hz with w | w
        · subst w
          refine .inr ⟨by simp only; omega, q0, ?_⟩
          have : p - a + a = p := by omega
          simp [this]
        · rcases s z w with c | ⟨c1, c2, c3⟩
          · exact .inl c
          · exact .inr ⟨c1, c2, List.mem_cons_of_mem _ c3⟩
theorem len_lt : ∀ {k : Nat} {u v : List Nat}, u.length < v.length → Al k u v → 2 ^ k - 1 ≤ u.length
  | 0, u, v, _, _ => by simp
  | k + 1, u, v, hl, h => by
    have h2 : 2 ^ (k + 1) = 2 * 2 ^ k := by rw [Nat.pow_succ]; omega
    have hp : 1 ≤ 2 ^ k := Nat.one_le_two_pow
    refine Nat.le_of_not_lt fun hn => ?_
    -- the place that parts them
    have go : ∀ b, b ≠ 0 → b ≤ v.length → ∃ a, a ≠ 0 ∧ a ≤ u.length ∧ (a - 1 = b - 1 ∨ (2 ^ k - 1 ≤ a - 1 ∧ 2 ^ k - 1 ≤ b - 1)) ∧ (u.length - a = v.length - b ∨ (2 ^ k - 1 ≤ u.length - a ∧ 2 ^ k - 1 ≤ v.length - b)) := by
      intro b b0 hb
      obtain ⟨a, ha, e⟩ := h.2 b hb
      have a0 : a ≠ 0 := fun w => b0 ((e.at0 (List.mem_cons_self ..)).mp w)
      have L : Al k (u.take (a - 1)) (v.take (b - 1)) := e.left (List.mem_cons_self ..) a0 fun z hz => nomatch hz
      have R : Al k (u.drop a) (v.drop b) := e.right (List.mem_cons_self ..) fun z hz => nomatch hz
      have both : ∀ {x y : List Nat}, Al k x y → x.length = y.length ∨ (2 ^ k - 1 ≤ x.length ∧ 2 ^ k - 1 ≤ y.length) := fun {x y} q => by
        rcases Nat.lt_trichotomy x.length y.length with c | c | c
        · have := len_lt c q; exact .inr ⟨this, by omega⟩
        · exact .inl c
        · have := len_lt c q.symm; exact .inr ⟨by omega, this⟩
      have l := both L
      have r := both R
      simp only [List.length_take, List.length_drop] at l r
      have e1 : min (a - 1) u.length = a - 1 := by omega
      have e2 : min (b - 1) v.length = b - 1 := by omega
      rw [e1, e2] at l
      exact ⟨a, a0, ha, l, r⟩
    by_cases c : 2 ^ k ≤ v.length
    · obtain ⟨a, a0, ha, l, r⟩ := go (2 ^ k) (by omega) c
      omega
    · obtain ⟨a, a0, ha, l, r⟩ := go v.length (by omega) (Nat.le_refl _)
      omega
theorem Al.len {k : Nat} {u v : List Nat} (h : Al k u v) : u.length = v.length ∨ (2 ^ k - 1 ≤ u.length ∧ 2 ^ k - 1 ≤ v.length) := by
  rcases Nat.lt_trichotomy u.length v.length with c | c | c
  · have := len_lt c h; exact .inr ⟨this, by omega⟩
  · exact .inl c
  · have := len_lt c h.symm; exact .inr ⟨by omega, this⟩
/-- powers of one letter -/
theorem pow_iff (c k m n : Nat) : Al k (pw [c] m) (pw [c] n) ↔ m = n ∨ (2 ^ k - 1 ≤ m ∧ 2 ^ k - 1 ≤ n) := by
  constructor
  · intro h
    have := h.len
    simpa [pw_len] using this
  · rintro (rfl | ⟨h1, h2⟩)
    · exact Al.refl _ _
    · exact pow_al _ _ _ _ h1 h2
/-! ### words turned round -/
def rv (n p : Nat) : Nat := if p = 0 then 0 else n + 1 - p
def rvP (n m : Nat) (P : Pairs) : Pairs := P.map fun z => (rv n z.1, rv m z.2)
theorem rv_rv {n p : Nat} (h : p ≤ n) : rv n (rv n p) = p := by unfold rv; split <;> split <;> omega
theorem rv_le {n p : Nat} : rv n p ≤ n := by unfold rv; split <;> omega
theorem lt_rev {w : List Nat} {p : Nat} (h : p ≤ w.length) : lt w.reverse (rv w.length p) = lt w p := by
  unfold lt rv
  by_cases h0 : p = 0
  · subst h0; rfl
  · rw [if_neg h0, if_neg (by omega), if_neg h0, List.getD_eq_getElem?_getD, List.getD_eq_getElem?_getD, List.getElem?_reverse (by omega)]
    congr 3; omega
theorem E.rev : ∀ {k : Nat} {w v : List Nat} {P : Pairs}, E k w v P → E k w.reverse v.reverse (rvP w.length v.length P)
  | 0, w, v, P, h => by
    intro z hz
    obtain ⟨x, hx, rfl⟩ := List.mem_map.mp hz
    obtain ⟨⟨x1, x2, x3⟩, x4⟩ := h x hx
    refine ⟨⟨by rw [List.length_reverse]; exact rv_le, by rw [List.length_reverse]; exact rv_le, by rw [lt_rev x1, lt_rev x2, x3]⟩, fun z' hz' => ?_⟩
    obtain ⟨y, hy, rfl⟩ := List.mem_map.mp hz'
    have a1 := E.at0 (k := 0) h hx
    have a2 := E.at0 (k := 0) h hy
    have c := x4 y hy
    obtain ⟨⟨y1, y2, _⟩, _⟩ := h y hy
    rw [cmp_eq_iff] at c ⊢
    unfold rv
    by_cases c1 : x.1 = 0 <;> by_cases c2 : y.1 = 0
    · rw [if_pos c1, if_pos c2, if_pos (a1.mp c1), if_pos (a2.mp c2)]; simp
    · rw [if_pos c1, if_neg c2, if_pos (a1.mp c1), if_neg (fun e => c2 (a2.mpr e))]; have := fun e => c2 (a2.mpr e); omega
    · rw [if_neg c1, if_pos c2, if_neg (fun e => c1 (a1.mpr e)), if_pos (a2.mp c2)]; have := fun e => c1 (a1.mpr e); omega
    · rw [if_neg c1, if_neg c2, if_neg (fun e => c1 (a1.mpr e)), if_neg (fun e => c2 (a2.mpr e))]
      have := fun e => c1 (a1.mpr e); have := fun e => c2 (a2.mpr e); omega
  | k + 1, w, v, P, h => by
    constructor
    · intro a ha
      rw [List.length_reverse] at ha
      obtain ⟨b, hb, q⟩ := h.1 (rv w.length a) rv_le
      refine ⟨rv v.length b, by rw [List.length_reverse]; exact rv_le, ?_⟩
      have := q.rev
      simpa [rvP, rv_rv ha] using this
    · intro b hb
      rw [List.length_reverse] at hb
      obtain ⟨a, ha, q⟩ := h.2 (rv v.length b) rv_le
      refine ⟨rv w.length a, by rw [List.length_reverse]; exact rv_le, ?_⟩
      have := q.rev
      simpa [rvP, rv_rv hb] using this
theorem rev_iff {k : Nat} {w v : List Nat} : Al k w.reverse v.reverse ↔ Al k w v := by
  constructor
  · intro h
    have := h.rev
    simpa [rvP] using this
  · exact fun h => h.rev
/-! ### letters exchanged -/
theorem lt_map {f : Nat → Nat} {w : List Nat} {p : Nat} (h : p ≤ w.length) : lt (w.map f) p = (lt w p).map f := by
  unfold lt
  split
  · rfl
  · rw [List.getD_eq_getElem?_getD, List.getD_eq_getElem?_getD, List.getElem?_map]
    have : p - 1 < w.length := by omega
    rw [List.getElem?_eq_getElem this]; rfl
theorem E.map {f : Nat → Nat} {w v : List Nat} (inj : ∀ c ∈ w, ∀ d ∈ v, f c = f d → c = d) : ∀ {k : Nat} {P : Pairs}, E k (w.map f) (v.map f) P ↔ E k w v P
  | 0, P => by
    have key : ∀ z : Nat × Nat, z.1 ≤ w.length → z.2 ≤ v.length → (lt (w.map f) z.1 = lt (v.map f) z.2 ↔ lt w z.1 = lt v z.2) := fun z h1 h2 => by
      rw [lt_map h1, lt_map h2]
      unfold lt
      by_cases c1 : z.1 = 0 <;> by_cases c2 : z.2 = 0
      · simp [c1, c2]
      · simp [c1, c2]
      · simp [c1, c2]
      · rw [if_neg c1, if_neg c2]
        simp only [List.map_cons, List.map_nil, List.cons.injEq, and_true]
        constructor
        · intro e
          refine inj _ ?_ _ ?_ e
          · rw [List.getD_eq_getElem?_getD, List.getElem?_eq_getElem (by omega : z.1 - 1 < w.length)]; exact List.getElem_mem _
          · rw [List.getD_eq_getElem?_getD, List.getElem?_eq_getElem (by omega : z.2 - 1 < v.length)]; exact List.getElem_mem _
        · intro e; rw [e]
    simp only [E, List.length_map]
    constructor
    · exact fun h z hz => ⟨⟨(h z hz).1.1, (h z hz).1.2.1, (key z (h z hz).1.1 (h z hz).1.2.1).mp (h z hz).1.2.2⟩, (h z hz).2⟩
    · exact fun h z hz => ⟨⟨(h z hz).1.1, (h z hz).1.2.1, (key z (h z hz).1.1 (h z hz).1.2.1).mpr (h z hz).1.2.2⟩, (h z hz).2⟩
  | k + 1, P => by
    simp only [E, List.length_map]
    constructor
    · exact fun h => ⟨fun a ha => let ⟨b, hb, q⟩ := h.1 a ha; ⟨b, hb, (E.map inj).mp q⟩, fun b hb => let ⟨a, ha, q⟩ := h.2 b hb; ⟨a, ha, (E.map inj).mp q⟩⟩
    · exact fun h => ⟨fun a ha => let ⟨b, hb, q⟩ := h.1 a ha; ⟨b, hb, (E.map inj).mpr q⟩, fun b hb => let ⟨a, ha, q⟩ := h.2 b hb; ⟨a, ha, (E.map inj).mpr q⟩⟩
end GM
end

section
set_option linter.all false
set_option maxHeartbeats 4000000
set_option maxRecDepth 100000
/-! G3: letters at places, plain kinds. -/
namespace PW
open GM
def natD (n : Nat) : D := .int n
def plD (ps : List Nat) : D := .tup (ps.map natD)
def plainD (w : List Nat) (ps : List Nat) : D := .tup [.tup (ps.map fun p => .str (lt w p)), .tup (ps.flatMap fun x => ps.map fun y => .int (cmp x y))]
def φ_letter_at : FSpec := fun ss q _ => ∃ w p, p ≤ w.length ∧ w.length ≤ 1000 ∧ ss = [.sh (.str w), .sh (natD p)] ∧ ∀ os, q (.sh (.str (lt w p))) os
theorem len_letter_at : ∀ ss q e, φ_letter_at ss q e → ss.length = 2 := by rintro ss q e ⟨w, p, _, _, rfl, _⟩; rfl
def w_letter_at : PW.WS :=
 (PW.sSeq (PW.sIf (PW.tB (PW.wLkB PW.fEq (PW.rN 1) (PW.rE (PW.wC (.int 0)))))
 (PW.sRet (PW.wC (.str [])))
 PW.sPass)
 (PW.sRet (PW.wLk2 PW.fIx (PW.rN 0) (PW.wBin PW.fSub (PW.wV 1) (PW.wC (.int 1))))))

theorem hs_letter_at : Does φ_letter_at 2 w_letter_at := by
  rintro ss q e ⟨w, p, hp, hw, rfl, h⟩
  simp [w_letter_at, natD, PW.sSeq, PW.sPass, PW.sBreak, PW.sCont, PW.sNever, PW.sExpr, PW.sSet, PW.sNew, PW.sPut, PW.sApp, PW.sFld, PW.sAsg, PW.sRet, PW.sRetN, PW.sRetF, PW.sRetO, PW.sIf, PW.sFor, PW.gN, PW.gT, PW.gUn, PW.wC, PW.wV, PW.rN, PW.rE, PW.peek, PW.wUn, PW.wBin, PW.wLk, PW.wLk2, PW.wLkR, PW.wLkB, PW.tB, PW.tTr, PW.truth, PW.tAnd, PW.tOr, PW.tNot, PW.tYes, PW.wAnd, PW.wOr, PW.wNot, PW.wIf, PW.wChain, PW.aNil, PW.aCons, PW.wTup, PW.nLst, PW.nCat, PW.nRep, PW.wPart, PW.fSl, PW.wSl, PW.nSl, PW.wSlL, PW.fAdd, PW.fSub, PW.fMul, PW.fFdiv, PW.fMod, PW.fPow, PW.fShl, PW.fShr, PW.fAnd, PW.fOr, PW.fXor, PW.fNeg, PW.fLt, PW.fLe, PW.fGt, PW.fGe, PW.fEq, PW.fNe, PW.fIsNone, PW.fIsntNone, PW.isNon, PW.fIn, PW.fNotIn, PW.fIx, PW.fLen, PW.fInt, PW.fAbs, PW.fMax2, PW.fMin2, PW.fTuple, PW.fList, PW.fMaxL, PW.fMinL, PW.fIs, PW.isTy, PW.fIsO, PW.fFld, PW.fCon, PW.fTab, PW.fInTab, PW.fNInTab, PW.plain, PW.plainL, PW.eqv, PW.eqvL, PW.small, PW.putO, PW.free, PW.isBo_sh, PW.isBo_un, PW.isBo_ow, PW.isBo_rd, PW.wipe, PW.unwipe, PW.isLst, PW.putF, PW.iSeq, PW.iStr, PW.iRng1, PW.iRng2, PW.iRngD, PW.iEnum, PW.iZip, PW.items, PW.bNil, PW.bV, PW.bB, PW.bR, PW.kCall, PW.kMeth, PW.kMake, PW.oV, PW.oR, PW.oB, PW.isObj, PW.isCls, PW.wSh, PW.nFr, PW.wInO, PW.wNInO, PW.call, PW.lent, PW.lentB, PW.lentR, PW.lentOk, PW.back_nil, PW.back_v, PW.back_r, PW.back_b, PW.entry, PW.noX, PW.b2i, PW.nLc, PW.fDget, PW.fDin, PW.fDnin, PW.fDlen, PW.nDit, PW.nDic, PW.sDput, PW.putKv, PW.dKv, PW.fSortSet, PW.wMt, PW.fSIndex, PW.fSFind, PW.isStr, PW.isLst1, PW.nLc2, PW.elt1, PW.elt2, line_eq]
  by_cases h0 : p = 0
  · subst h0
    have := h [.sh (.str w), .sh (.int 0)]
    simpa [lt] using this
  · have e : (p : Int) ≠ 0 := by omega
    have hl : w.length ≤ 16777216 := by omega
    simp [h0, hl]
    have e2 : ((p : Int) - 1) = ((p - 1 : Nat) : Int) := by omega
    rw [e2, atI_nat]
    have hlt : p - 1 < w.length := by omega
    rw [List.getElem?_eq_getElem hlt]
    have : lt w p = [w[p - 1]] := by
      unfold lt; rw [if_neg h0, List.getD_eq_getElem?_getD, List.getElem?_eq_getElem hlt]; rfl
    rw [this] at h
    exact h _
/-- a loop inside a loop: the second list is walked for each of the first -/
theorem gl_map2 {own : List Nat} {g : WG} {pel : PEl} {Q : List D → Env → Prop} {ρ0 : Env} {α : Type} (F : α → List D) (D1 : α → D) (m : Nat) : ∀ (xs : List α) {acc : List D} (n : Nat), (∀ x ∈ xs, (F x).length = m) → acc.length + xs.length * m ≤ n →
    (∀ x ∈ xs, ∀ (acc : List D) (K : List D → Env → Prop), acc.length + m ≤ n → (∀ ρ', wipe ρ' own = ρ0 → K (acc ++ F x) ρ') → g (D1 x) ρ0 fun ρ1 => pel ρ1 acc K) → Q (acc ++ xs.flatMap F) ρ0 → genLoop own g tYes pel (xs.map D1) acc ρ0 Q
  | [], acc, n, _, _, _, hQ => by simpa [genLoop] using hQ
  | x :: xs, acc, n, hm, hz, hs, hQ => by
    rw [List.length_cons, Nat.succ_mul] at hz
    refine hs x (List.mem_cons_self ..) acc _ (by omega) fun ρ' hw => ?_
    rw [hw]
    refine gl_map2 F D1 m xs n (fun y hy => hm y (List.mem_cons_of_mem _ hy)) (by rw [List.length_append, hm x (List.mem_cons_self ..)]; omega) (fun y hy => hs y (List.mem_cons_of_mem _ hy)) ?_
    simpa using hQ
theorem gl_map1 {own : List Nat} {g : WG} {e : WE} {Q : List D → Env → Prop} {ρ0 : Env} : ∀ (ds L : List D) {acc : List D}, L.length = ds.length → acc.length + ds.length ≤ line →
    (∀ (i : Nat) (d y : D) (K : D → Env → Prop), ds[i]? = some d → L[i]? = some y → (∀ ρ', wipe ρ' own = ρ0 → K y ρ') → g d ρ0 fun ρ1 => e noX ρ1 K) → Q (acc ++ L) ρ0 → genLoop own g tYes (elt1 e) ds acc ρ0 Q
  | [], [], acc, _, _, _, hQ => by simpa [genLoop] using hQ
  | [], _ :: _, _, hl, _, _, _ => by simp at hl
  | _ :: _, [], _, hl, _, _, _ => by simp at hl
  | d :: ds, y :: L, acc, hl, hz, hs, hQ => by
    refine hs 0 d y _ rfl rfl fun ρ' hw => ⟨by simp only [List.length_cons] at hz; omega, ?_⟩
    show genLoop own g tYes (elt1 e) ds (acc ++ [y]) (wipe ρ' own) Q
    rw [hw]
    refine gl_map1 ds L (by simpa using hl) (by simp only [List.length_cons, List.length_append, List.length_nil] at hz ⊢; omega) (fun i d y K h1 h2 h3 => hs (i + 1) d y K (by simpa using h1) (by simpa using h2) h3) ?_
    simpa using hQ
def φ_plain_kind : FSpec := fun ss q _ => ∃ w ps, (∀ p ∈ ps, p ≤ w.length) ∧ w.length ≤ 1000 ∧ ps.length ≤ 10 ∧ ss = [.sh (.str w), .sh (plD ps)] ∧ ∀ os, q (.sh (plainD w ps)) os
theorem len_plain_kind : ∀ ss q e, φ_plain_kind ss q e → ss.length = 2 := by rintro ss q e ⟨w, ps, _, _, _, rfl, _⟩; rfl
def w_plain_kind : PW.WS :=
 (PW.sSeq (PW.sSet 2 (PW.wLk PW.fTuple (PW.rE (PW.nLc2 [3, 4] [4] (PW.iSeq (PW.wV 1)) (PW.gN 3) PW.tYes (PW.iSeq (PW.wV 1)) (PW.gN 4) PW.tYes (PW.wBin PW.fSub (PW.wLk PW.fInt (PW.rE (PW.wLkB PW.fGt (PW.rN 3) (PW.rN 4)))) (PW.wLk PW.fInt (PW.rE (PW.wLkB PW.fLt (PW.rN 3) (PW.rN 4)))))))))
 (PW.sRet (PW.wTup (PW.aCons (PW.wLk PW.fTuple (PW.rE (PW.nLc [5] (PW.iSeq (PW.wV 1)) (PW.gN 5) PW.tYes (PW.wSh (PW.kCall φ_letter_at [] (PW.bV (PW.wV 0) (PW.bV (PW.wV 5) PW.bNil))))))) (PW.aCons (PW.wV 2) PW.aNil)))))

theorem hs_plain_kind : Does φ_plain_kind 6 w_plain_kind := by
  rintro ss q e ⟨w, ps, hp, hw, hl, rfl, h⟩
  simp [w_plain_kind, plD, PW.sSeq, PW.sPass, PW.sBreak, PW.sCont, PW.sNever, PW.sExpr, PW.sSet, PW.sNew, PW.sPut, PW.sApp, PW.sFld, PW.sAsg, PW.sRet, PW.sRetN, PW.sRetF, PW.sRetO, PW.sIf, PW.sFor, PW.gN, PW.gT, PW.gUn, PW.wC, PW.wV, PW.rN, PW.rE, PW.peek, PW.wUn, PW.wBin, PW.wLk, PW.wLk2, PW.wLkR, PW.wLkB, PW.tB, PW.tTr, PW.truth, PW.tAnd, PW.tOr, PW.tNot, PW.tYes, PW.wAnd, PW.wOr, PW.wNot, PW.wIf, PW.wChain, PW.aNil, PW.aCons, PW.wTup, PW.nLst, PW.nCat, PW.nRep, PW.wPart, PW.fSl, PW.wSl, PW.nSl, PW.wSlL, PW.fAdd, PW.fSub, PW.fMul, PW.fFdiv, PW.fMod, PW.fPow, PW.fShl, PW.fShr, PW.fAnd, PW.fOr, PW.fXor, PW.fNeg, PW.fLt, PW.fLe, PW.fGt, PW.fGe, PW.fEq, PW.fNe, PW.fIsNone, PW.fIsntNone, PW.isNon, PW.fIn, PW.fNotIn, PW.fIx, PW.fLen, PW.fInt, PW.fAbs, PW.fMax2, PW.fMin2, PW.fTuple, PW.fList, PW.fMaxL, PW.fMinL, PW.fIs, PW.isTy, PW.fIsO, PW.fFld, PW.fCon, PW.fTab, PW.fInTab, PW.fNInTab, PW.plain, PW.plainL, PW.eqv, PW.eqvL, PW.small, PW.putO, PW.free, PW.isBo_sh, PW.isBo_un, PW.isBo_ow, PW.isBo_rd, PW.wipe, PW.unwipe, PW.isLst, PW.putF, PW.iSeq, PW.iStr, PW.iRng1, PW.iRng2, PW.iRngD, PW.iEnum, PW.iZip, PW.items, PW.bNil, PW.bV, PW.bB, PW.bR, PW.kCall, PW.kMeth, PW.kMake, PW.oV, PW.oR, PW.oB, PW.isObj, PW.isCls, PW.wSh, PW.nFr, PW.wInO, PW.wNInO, PW.call, PW.lent, PW.lentB, PW.lentR, PW.lentOk, PW.back_nil, PW.back_v, PW.back_r, PW.back_b, PW.entry, PW.noX, PW.b2i, PW.nLc, PW.fDget, PW.fDin, PW.fDnin, PW.fDlen, PW.nDit, PW.nDic, PW.sDput, PW.putKv, PW.dKv, PW.fSortSet, PW.wMt, PW.fSIndex, PW.fSFind, PW.isStr, PW.isLst1, PW.nLc2, PW.elt1, PW.elt2, line_eq]
  have hl2 : ps.length * ps.length ≤ 100 := Nat.mul_le_mul hl hl
  refine gl_map2 (fun x => ps.map fun y => .int (cmp x y)) natD ps.length ps 16777216 (fun x _ => List.length_map ..) (by simp; omega) (fun x hx acc K hacc hK => ?_) ?_
  · simp [natD, PW.sSeq, PW.sPass, PW.sBreak, PW.sCont, PW.sNever, PW.sExpr, PW.sSet, PW.sNew, PW.sPut, PW.sApp, PW.sFld, PW.sAsg, PW.sRet, PW.sRetN, PW.sRetF, PW.sRetO, PW.sIf, PW.sFor, PW.gN, PW.gT, PW.gUn, PW.wC, PW.wV, PW.rN, PW.rE, PW.peek, PW.wUn, PW.wBin, PW.wLk, PW.wLk2, PW.wLkR, PW.wLkB, PW.tB, PW.tTr, PW.truth, PW.tAnd, PW.tOr, PW.tNot, PW.tYes, PW.wAnd, PW.wOr, PW.wNot, PW.wIf, PW.wChain, PW.aNil, PW.aCons, PW.wTup, PW.nLst, PW.nCat, PW.nRep, PW.wPart, PW.fSl, PW.wSl, PW.nSl, PW.wSlL, PW.fAdd, PW.fSub, PW.fMul, PW.fFdiv, PW.fMod, PW.fPow, PW.fShl, PW.fShr, PW.fAnd, PW.fOr, PW.fXor, PW.fNeg, PW.fLt, PW.fLe, PW.fGt, PW.fGe, PW.fEq, PW.fNe, PW.fIsNone, PW.fIsntNone, PW.isNon, PW.fIn, PW.fNotIn, PW.fIx, PW.fLen, PW.fInt, PW.fAbs, PW.fMax2, PW.fMin2, PW.fTuple, PW.fList, PW.fMaxL, PW.fMinL, PW.fIs, PW.isTy, PW.fIsO, PW.fFld, PW.fCon, PW.fTab, PW.fInTab, PW.fNInTab, PW.plain, PW.plainL, PW.eqv, PW.eqvL, PW.small, PW.putO, PW.free, PW.isBo_sh, PW.isBo_un, PW.isBo_ow, PW.isBo_rd, PW.wipe, PW.unwipe, PW.isLst, PW.putF, PW.iSeq, PW.iStr, PW.iRng1, PW.iRng2, PW.iRngD, PW.iEnum, PW.iZip, PW.items, PW.bNil, PW.bV, PW.bB, PW.bR, PW.kCall, PW.kMeth, PW.kMake, PW.oV, PW.oR, PW.oB, PW.isObj, PW.isCls, PW.wSh, PW.nFr, PW.wInO, PW.wNInO, PW.call, PW.lent, PW.lentB, PW.lentR, PW.lentOk, PW.back_nil, PW.back_v, PW.back_r, PW.back_b, PW.entry, PW.noX, PW.b2i, PW.nLc, PW.fDget, PW.fDin, PW.fDnin, PW.fDlen, PW.nDit, PW.nDic, PW.sDput, PW.putKv, PW.dKv, PW.fSortSet, PW.wMt, PW.fSIndex, PW.fSFind, PW.isStr, PW.isLst1, PW.nLc2, PW.elt1, PW.elt2, line_eq]
    refine gl_map1 _ (ps.map fun y => .int (cmp x y)) (by simp) (by simpa [line_eq] using hacc) (fun i d y K h1 h2 h3 => ?_) ?_
    · rw [List.getElem?_map] at h1 h2
      obtain ⟨y', hy, rfl⟩ := Option.map_eq_some_iff.mp h1
      obtain ⟨y'', hy2, rfl⟩ := Option.map_eq_some_iff.mp h2
      rw [hy] at hy2; cases hy2
      simp [natD, PW.sSeq, PW.sPass, PW.sBreak, PW.sCont, PW.sNever, PW.sExpr, PW.sSet, PW.sNew, PW.sPut, PW.sApp, PW.sFld, PW.sAsg, PW.sRet, PW.sRetN, PW.sRetF, PW.sRetO, PW.sIf, PW.sFor, PW.gN, PW.gT, PW.gUn, PW.wC, PW.wV, PW.rN, PW.rE, PW.peek, PW.wUn, PW.wBin, PW.wLk, PW.wLk2, PW.wLkR, PW.wLkB, PW.tB, PW.tTr, PW.truth, PW.tAnd, PW.tOr, PW.tNot, PW.tYes, PW.wAnd, PW.wOr, PW.wNot, PW.wIf, PW.wChain, PW.aNil, PW.aCons, PW.wTup, PW.nLst, PW.nCat, PW.nRep, PW.wPart, PW.fSl, PW.wSl, PW.nSl, PW.wSlL, PW.fAdd, PW.fSub, PW.fMul, PW.fFdiv, PW.fMod, PW.fPow, PW.fShl, PW.fShr, PW.fAnd, PW.fOr, PW.fXor, PW.fNeg, PW.fLt, PW.fLe, PW.fGt, PW.fGe, PW.fEq, PW.fNe, PW.fIsNone, PW.fIsntNone, PW.isNon, PW.fIn, PW.fNotIn, PW.fIx, PW.fLen, PW.fInt, PW.fAbs, PW.fMax2, PW.fMin2, PW.fTuple, PW.fList, PW.fMaxL, PW.fMinL, PW.fIs, PW.isTy, PW.fIsO, PW.fFld, PW.fCon, PW.fTab, PW.fInTab, PW.fNInTab, PW.plain, PW.plainL, PW.eqv, PW.eqvL, PW.small, PW.putO, PW.free, PW.isBo_sh, PW.isBo_un, PW.isBo_ow, PW.isBo_rd, PW.wipe, PW.unwipe, PW.isLst, PW.putF, PW.iSeq, PW.iStr, PW.iRng1, PW.iRng2, PW.iRngD, PW.iEnum, PW.iZip, PW.items, PW.bNil, PW.bV, PW.bB, PW.bR, PW.kCall, PW.kMeth, PW.kMake, PW.oV, PW.oR, PW.oB, PW.isObj, PW.isCls, PW.wSh, PW.nFr, PW.wInO, PW.wNInO, PW.call, PW.lent, PW.lentB, PW.lentR, PW.lentOk, PW.back_nil, PW.back_v, PW.back_r, PW.back_b, PW.entry, PW.noX, PW.b2i, PW.nLc, PW.fDget, PW.fDin, PW.fDnin, PW.fDlen, PW.nDit, PW.nDic, PW.sDput, PW.putKv, PW.dKv, PW.fSortSet, PW.wMt, PW.fSIndex, PW.fSFind, PW.isStr, PW.isLst1, PW.nLc2, PW.elt1, PW.elt2, line_eq]
      have := h3 [Sl.sh (D.str w), Sl.sh (D.tup (List.map natD ps)), Sl.un, Sl.sh (D.int x), Sl.sh (D.int y'), Sl.un] rfl
      unfold cmp at this
      simpa using this
    · exact hK _ rfl
  · simp [PW.sSeq, PW.sPass, PW.sBreak, PW.sCont, PW.sNever, PW.sExpr, PW.sSet, PW.sNew, PW.sPut, PW.sApp, PW.sFld, PW.sAsg, PW.sRet, PW.sRetN, PW.sRetF, PW.sRetO, PW.sIf, PW.sFor, PW.gN, PW.gT, PW.gUn, PW.wC, PW.wV, PW.rN, PW.rE, PW.peek, PW.wUn, PW.wBin, PW.wLk, PW.wLk2, PW.wLkR, PW.wLkB, PW.tB, PW.tTr, PW.truth, PW.tAnd, PW.tOr, PW.tNot, PW.tYes, PW.wAnd, PW.wOr, PW.wNot, PW.wIf, PW.wChain, PW.aNil, PW.aCons, PW.wTup, PW.nLst, PW.nCat, PW.nRep, PW.wPart, PW.fSl, PW.wSl, PW.nSl, PW.wSlL, PW.fAdd, PW.fSub, PW.fMul, PW.fFdiv, PW.fMod, PW.fPow, PW.fShl, PW.fShr, PW.fAnd, PW.fOr, PW.fXor, PW.fNeg, PW.fLt, PW.fLe, PW.fGt, PW.fGe, PW.fEq, PW.fNe, PW.fIsNone, PW.fIsntNone, PW.isNon, PW.fIn, PW.fNotIn, PW.fIx, PW.fLen, PW.fInt, PW.fAbs, PW.fMax2, PW.fMin2, PW.fTuple, PW.fList, PW.fMaxL, PW.fMinL, PW.fIs, PW.isTy, PW.fIsO, PW.fFld, PW.fCon, PW.fTab, PW.fInTab, PW.fNInTab, PW.plain, PW.plainL, PW.eqv, PW.eqvL, PW.small, PW.putO, PW.free, PW.isBo_sh, PW.isBo_un, PW.isBo_ow, PW.isBo_rd, PW.wipe, PW.unwipe, PW.isLst, PW.putF, PW.iSeq, PW.iStr, PW.iRng1, PW.iRng2, PW.iRngD, PW.iEnum, PW.iZip, PW.items, PW.bNil, PW.bV, PW.bB, PW.bR, PW.kCall, PW.kMeth, PW.kMake, PW.oV, PW.oR, PW.oB, PW.isObj, PW.isCls, PW.wSh, PW.nFr, PW.wInO, PW.wNInO, PW.call, PW.lent, PW.lentB, PW.lentR, PW.lentOk, PW.back_nil, PW.back_v, PW.back_r, PW.back_b, PW.entry, PW.noX, PW.b2i, PW.nLc, PW.fDget, PW.fDin, PW.fDnin, PW.fDlen, PW.nDit, PW.nDic, PW.sDput, PW.putKv, PW.dKv, PW.fSortSet, PW.wMt, PW.fSIndex, PW.fSFind, PW.isStr, PW.isLst1, PW.nLc2, PW.elt1, PW.elt2, line_eq]
    refine lc_map (ps.map fun p => .str (lt w p)) (by simp) (by simp [line_eq]; omega) (fun i d y K h1 h2 h3 => ?_) ?_
    · rw [List.getElem?_map] at h1 h2
      obtain ⟨p, hpi, rfl⟩ := Option.map_eq_some_iff.mp h1
      obtain ⟨p', hpi2, rfl⟩ := Option.map_eq_some_iff.mp h2
      rw [hpi] at hpi2; cases hpi2
      simp [natD, PW.sSeq, PW.sPass, PW.sBreak, PW.sCont, PW.sNever, PW.sExpr, PW.sSet, PW.sNew, PW.sPut, PW.sApp, PW.sFld, PW.sAsg, PW.sRet, PW.sRetN, PW.sRetF, PW.sRetO, PW.sIf, PW.sFor, PW.gN, PW.gT, PW.gUn, PW.wC, PW.wV, PW.rN, PW.rE, PW.peek, PW.wUn, PW.wBin, PW.wLk, PW.wLk2, PW.wLkR, PW.wLkB, PW.tB, PW.tTr, PW.truth, PW.tAnd, PW.tOr, PW.tNot, PW.tYes, PW.wAnd, PW.wOr, PW.wNot, PW.wIf, PW.wChain, PW.aNil, PW.aCons, PW.wTup, PW.nLst, PW.nCat, PW.nRep, PW.wPart, PW.fSl, PW.wSl, PW.nSl, PW.wSlL, PW.fAdd, PW.fSub, PW.fMul, PW.fFdiv, PW.fMod, PW.fPow, PW.fShl, PW.fShr, PW.fAnd, PW.fOr, PW.fXor, PW.fNeg, PW.fLt, PW.fLe, PW.fGt, PW.fGe, PW.fEq, PW.fNe, PW.fIsNone, PW.fIsntNone, PW.isNon, PW.fIn, PW.fNotIn, PW.fIx, PW.fLen, PW.fInt, PW.fAbs, PW.fMax2, PW.fMin2, PW.fTuple, PW.fList, PW.fMaxL, PW.fMinL, PW.fIs, PW.isTy, PW.fIsO, PW.fFld, PW.fCon, PW.fTab, PW.fInTab, PW.fNInTab, PW.plain, PW.plainL, PW.eqv, PW.eqvL, PW.small, PW.putO, PW.free, PW.isBo_sh, PW.isBo_un, PW.isBo_ow, PW.isBo_rd, PW.wipe, PW.unwipe, PW.isLst, PW.putF, PW.iSeq, PW.iStr, PW.iRng1, PW.iRng2, PW.iRngD, PW.iEnum, PW.iZip, PW.items, PW.bNil, PW.bV, PW.bB, PW.bR, PW.kCall, PW.kMeth, PW.kMake, PW.oV, PW.oR, PW.oB, PW.isObj, PW.isCls, PW.wSh, PW.nFr, PW.wInO, PW.wNInO, PW.call, PW.lent, PW.lentB, PW.lentR, PW.lentOk, PW.back_nil, PW.back_v, PW.back_r, PW.back_b, PW.entry, PW.noX, PW.b2i, PW.nLc, PW.fDget, PW.fDin, PW.fDnin, PW.fDlen, PW.nDit, PW.nDic, PW.sDput, PW.putKv, PW.dKv, PW.fSortSet, PW.wMt, PW.fSIndex, PW.fSFind, PW.isStr, PW.isLst1, PW.nLc2, PW.elt1, PW.elt2, line_eq]
      refine ⟨w, p, hp p (List.mem_of_getElem? hpi), hw, rfl, fun os => ?_⟩
      simp [PW.sSeq, PW.sPass, PW.sBreak, PW.sCont, PW.sNever, PW.sExpr, PW.sSet, PW.sNew, PW.sPut, PW.sApp, PW.sFld, PW.sAsg, PW.sRet, PW.sRetN, PW.sRetF, PW.sRetO, PW.sIf, PW.sFor, PW.gN, PW.gT, PW.gUn, PW.wC, PW.wV, PW.rN, PW.rE, PW.peek, PW.wUn, PW.wBin, PW.wLk, PW.wLk2, PW.wLkR, PW.wLkB, PW.tB, PW.tTr, PW.truth, PW.tAnd, PW.tOr, PW.tNot, PW.tYes, PW.wAnd, PW.wOr, PW.wNot, PW.wIf, PW.wChain, PW.aNil, PW.aCons, PW.wTup, PW.nLst, PW.nCat, PW.nRep, PW.wPart, PW.fSl, PW.wSl, PW.nSl, PW.wSlL, PW.fAdd, PW.fSub, PW.fMul, PW.fFdiv, PW.fMod, PW.fPow, PW.fShl, PW.fShr, PW.fAnd, PW.fOr, PW.fXor, PW.fNeg, PW.fLt, PW.fLe, PW.fGt, PW.fGe, PW.fEq, PW.fNe, PW.fIsNone, PW.fIsntNone, PW.isNon, PW.fIn, PW.fNotIn, PW.fIx, PW.fLen, PW.fInt, PW.fAbs, PW.fMax2, PW.fMin2, PW.fTuple, PW.fList, PW.fMaxL, PW.fMinL, PW.fIs, PW.isTy, PW.fIsO, PW.fFld, PW.fCon, PW.fTab, PW.fInTab, PW.fNInTab, PW.plain, PW.plainL, PW.eqv, PW.eqvL, PW.small, PW.putO, PW.free, PW.isBo_sh, PW.isBo_un, PW.isBo_ow, PW.isBo_rd, PW.wipe, PW.unwipe, PW.isLst, PW.putF, PW.iSeq, PW.iStr, PW.iRng1, PW.iRng2, PW.iRngD, PW.iEnum, PW.iZip, PW.items, PW.bNil, PW.bV, PW.bB, PW.bR, PW.kCall, PW.kMeth, PW.kMake, PW.oV, PW.oR, PW.oB, PW.isObj, PW.isCls, PW.wSh, PW.nFr, PW.wInO, PW.wNInO, PW.call, PW.lent, PW.lentB, PW.lentR, PW.lentOk, PW.back_nil, PW.back_v, PW.back_r, PW.back_b, PW.entry, PW.noX, PW.b2i, PW.nLc, PW.fDget, PW.fDin, PW.fDnin, PW.fDlen, PW.nDit, PW.nDic, PW.sDput, PW.putKv, PW.dKv, PW.fSortSet, PW.wMt, PW.fSIndex, PW.fSFind, PW.isStr, PW.isLst1, PW.nLc2, PW.elt1, PW.elt2]
      exact h3 _ rfl
    · simp [PW.sSeq, PW.sPass, PW.sBreak, PW.sCont, PW.sNever, PW.sExpr, PW.sSet, PW.sNew, PW.sPut, PW.sApp, PW.sFld, PW.sAsg, PW.sRet, PW.sRetN, PW.sRetF, PW.sRetO, PW.sIf, PW.sFor, PW.gN, PW.gT, PW.gUn, PW.wC, PW.wV, PW.rN, PW.rE, PW.peek, PW.wUn, PW.wBin, PW.wLk, PW.wLk2, PW.wLkR, PW.wLkB, PW.tB, PW.tTr, PW.truth, PW.tAnd, PW.tOr, PW.tNot, PW.tYes, PW.wAnd, PW.wOr, PW.wNot, PW.wIf, PW.wChain, PW.aNil, PW.aCons, PW.wTup, PW.nLst, PW.nCat, PW.nRep, PW.wPart, PW.fSl, PW.wSl, PW.nSl, PW.wSlL, PW.fAdd, PW.fSub, PW.fMul, PW.fFdiv, PW.fMod, PW.fPow, PW.fShl, PW.fShr, PW.fAnd, PW.fOr, PW.fXor, PW.fNeg, PW.fLt, PW.fLe, PW.fGt, PW.fGe, PW.fEq, PW.fNe, PW.fIsNone, PW.fIsntNone, PW.isNon, PW.fIn, PW.fNotIn, PW.fIx, PW.fLen, PW.fInt, PW.fAbs, PW.fMax2, PW.fMin2, PW.fTuple, PW.fList, PW.fMaxL, PW.fMinL, PW.fIs, PW.isTy, PW.fIsO, PW.fFld, PW.fCon, PW.fTab, PW.fInTab, PW.fNInTab, PW.plain, PW.plainL, PW.eqv, PW.eqvL, PW.small, PW.putO, PW.free, PW.isBo_sh, PW.isBo_un, PW.isBo_ow, PW.isBo_rd, PW.wipe, PW.unwipe, PW.isLst, PW.putF, PW.iSeq, PW.iStr, PW.iRng1, PW.iRng2, PW.iRngD, PW.iEnum, PW.iZip, PW.items, PW.bNil, PW.bV, PW.bB, PW.bR, PW.kCall, PW.kMeth, PW.kMake, PW.oV, PW.oR, PW.oB, PW.isObj, PW.isCls, PW.wSh, PW.nFr, PW.wInO, PW.wNInO, PW.call, PW.lent, PW.lentB, PW.lentR, PW.lentOk, PW.back_nil, PW.back_v, PW.back_r, PW.back_b, PW.entry, PW.noX, PW.b2i, PW.nLc, PW.fDget, PW.fDin, PW.fDnin, PW.fDlen, PW.nDit, PW.nDic, PW.sDput, PW.putKv, PW.dKv, PW.fSortSet, PW.wMt, PW.fSIndex, PW.fSFind, PW.isStr, PW.isLst1, PW.nLc2, PW.elt1, PW.elt2, line_eq]
      exact h _
end PW
end

section
set_option linter.all false
set_option maxHeartbeats 4000000
set_option maxRecDepth 100000
/-! G4: kinds have numbers. -/
namespace PW
open GM
mutual
theorem eqv_iff : ∀ {d e : D} {n m : Nat}, keyB d n = true → keyB e m = true → (eqv d e = true ↔ d = e)
  | .non, e, n, m, h1, h2 => by cases e <;> simp [eqv, keyB] at *
  | .int i, e, n, m, h1, h2 => by cases e <;> simp [eqv, keyB] at *
  | .str s, e, n, m, h1, h2 => by cases e <;> simp [eqv, keyB] at *
  | .tup a, e, n, m, h1, h2 => by
    cases e <;> first | (simp [eqv, keyB] at *; done) | skip
    cases n <;> cases m <;> simp only [keyB] at h1 h2 <;> first | (exact absurd h1 Bool.false_ne_true) | (exact absurd h2 Bool.false_ne_true) | skip
    simp only [eqv, D.tup.injEq]
    exact eqvL_iff h1 h2
  | .bl _, _, _, _, h, _ => by simp [keyB] at h
  | .lst _, _, _, _, h, _ => by simp [keyB] at h
  | .dic _, _, _, _, h, _ => by simp [keyB] at h
  | .dit _, _, _, _, h, _ => by simp [keyB] at h
  | .obj _ _, _, _, _, h, _ => by simp [keyB] at h
  | .scr _, _, _, _, h, _ => by simp [keyB] at h
theorem eqvL_iff : ∀ {d e : List D} {n m : Nat}, keyBL d n = true → keyBL e m = true → (eqvL d e = true ↔ d = e)
  | [], e, _, _, _, _ => by cases e <;> simp [eqvL]
  | d :: ds, [], _, _, _, _ => by simp [eqvL]
  | d :: ds, e :: es, n, m, h1, h2 => by
    simp only [keyBL, Bool.and_eq_true] at h1 h2
    simp only [eqvL, Bool.and_eq_true, List.cons.injEq, eqv_iff h1.1 h2.1, eqvL_iff h1.2 h2.2]
end
theorem isTk_key {d : D} (h : isTk d = true) : keyB d 8 = true := by
  cases d <;> first | exact h | (cases h)
theorem tk_iff {d e : D} (h1 : isTk d = true) (h2 : isTk e = true) : eqv d e = true ↔ d = e := eqv_iff (isTk_key h1) (isTk_key h2)
theorem tk_ne {d e : D} (h1 : isTk d = true) (h2 : isTk e = true) (h : d ≠ e) : eqv d e = false := by
  cases q : eqv d e with
  | false => rfl
  | true => exact absurd ((tk_iff h1 h2).mp q) h
/-- the dict that numbers keys in their order -/
def numD : Nat → List D → List (D × D)
  | _, [] => []
  | i, k :: ks => (k, natD i) :: numD (i + 1) ks
theorem numD_len (i : Nat) (ks : List D) : (numD i ks).length = ks.length := by
  induction ks generalizing i with
  | nil => rfl
  | cons k ks ih => simp [numD, ih]
structure KOk (ks : List D) : Prop where
  tk : ∀ d ∈ ks, isTk d = true
  nd : ks.Nodup
theorem get_none {ks : List D} {y : D} (tk : ∀ d ∈ ks, isTk d = true) (hy : isTk y = true) (h : y ∉ ks) (i : Nat) : dGet (numD i ks) y = none := by
  induction ks generalizing i with
  | nil => rfl
  | cons k ks ih =>
    have ne : eqv k y = false := tk_ne (tk k (List.mem_cons_self ..)) hy fun e => h (e ▸ List.mem_cons_self ..)
    have := ih (fun d hd => tk d (List.mem_cons_of_mem _ hd)) (fun q => h (List.mem_cons_of_mem _ q)) (i + 1)
    simpa [dGet, numD, List.find?_cons, ne] using this
theorem get_some {ks : List D} {y : D} (K : KOk ks) (hy : isTk y = true) {j : Nat} (h : ks[j]? = some y) (i : Nat) : dGet (numD i ks) y = some (natD (i + j)) := by
  induction ks generalizing i j with
  | nil => simp at h
  | cons k ks ih =>
    cases j with
    | zero =>
      simp at h; subst h
      have : eqv k k = true := (tk_iff hy hy).mpr rfl
      simp [dGet, numD, List.find?_cons, this]
    | succ j =>
      have hm : ks[j]? = some y := by simpa using h
      have nd := List.nodup_cons.mp K.nd
      have ne : eqv k y = false := tk_ne (K.tk k (List.mem_cons_self ..)) hy fun e => nd.1 (e ▸ List.mem_of_getElem? hm)
      have := ih ⟨fun d hd => K.tk d (List.mem_cons_of_mem _ hd), nd.2⟩ hm (i + 1)
      have e : i + 1 + j = i + (j + 1) := by omega
      rw [e] at this
      simpa [dGet, numD, List.find?_cons, ne] using this
theorem numD_app (i : Nat) (ks : List D) (y : D) : numD i (ks ++ [y]) = numD i ks ++ [(y, natD (i + ks.length))] := by
  induction ks generalizing i with
  | nil => rfl
  | cons k ks ih =>
    have e : i + 1 + ks.length = i + (ks.length + 1) := by omega
    simp [numD, ih, e]
theorem put_new {ks : List D} {y : D} (tk : ∀ d ∈ ks, isTk d = true) (hy : isTk y = true) (h : y ∉ ks) : dPut (numD 0 ks) y (natD ks.length) = numD 0 (ks ++ [y]) := by
  have : ((numD 0 ks).any fun p => eqv p.1 y) = false := by
    rw [List.any_eq_false]
    intro p hp
    have : ∀ (i : Nat) (ks : List D), p ∈ numD i ks → p.1 ∈ ks := fun i ks => by
      induction ks generalizing i with
      | nil => intro h; cases h
      | cons k ks ih =>
        intro h
        rcases List.mem_cons.mp h with e | e
        · subst e; exact List.mem_cons_self ..
        · exact List.mem_cons_of_mem _ (ih _ e)
    have hm := this 0 ks hp
    rw [tk_ne (tk _ hm) hy fun e => h (e ▸ hm)]; decide
  unfold dPut
  rw [this, if_neg Bool.false_ne_true, numD_app, Nat.zero_add]
theorem KOk.app {ks : List D} {y : D} (K : KOk ks) (hy : isTk y = true) (h : y ∉ ks) : KOk (ks ++ [y]) := by
  refine ⟨fun d hd => ?_, ?_⟩
  · rcases List.mem_append.mp hd with q | q
    · exact K.tk d q
    · simp at q; subst q; exact hy
  · rw [List.nodup_append]
    refine ⟨K.nd, by simp, fun a ha b hb => ?_⟩
    simp at hb; subst hb
    exact fun e => h (e ▸ ha)
/-! ### what a number stands for -/
def nodeD (k : Nat) (ms : List Nat) : D := .tup [natD k, .tup (ms.map natD)]
def R (ks : List D) : Nat → List Nat → List Nat → Nat → Prop
  | 0, w, ps, n => ks[n]? = some (plainD w ps)
  | k + 1, w, ps, n => ∃ ms : List Nat, ms.Pairwise (· < ·) ∧ ks[n]? = some (nodeD (k + 1) ms) ∧ (∀ m ∈ ms, ∃ a ≤ w.length, R ks k w (ps ++ [a]) m) ∧ ∀ a ≤ w.length, ∃ m ∈ ms, R ks k w (ps ++ [a]) m
theorem pre_get {ks ks' : List D} (h : ks <+: ks') {n : Nat} {d : D} (e : ks[n]? = some d) : ks'[n]? = some d := by
  obtain ⟨t, rfl⟩ := h
  rw [List.getElem?_append_left (List.getElem?_eq_some_iff.mp e).1]; exact e
theorem R.mono {ks ks' : List D} (h : ks <+: ks') : ∀ {k : Nat} {w ps : List Nat} {n : Nat}, R ks k w ps n → R ks' k w ps n
  | 0, _, _, _, r => pre_get h r
  | k + 1, _, _, _, ⟨ms, h1, h2, h3, h4⟩ => ⟨ms, h1, pre_get h h2, fun m hm => let ⟨a, ha, r⟩ := h3 m hm; ⟨a, ha, r.mono h⟩, fun a ha => let ⟨m, hm, r⟩ := h4 a ha; ⟨m, hm, r.mono h⟩⟩
theorem map_zip {α β γ : Type} {f : α → γ} {g : β → γ} : ∀ {ps : List α} {qs : List β}, ps.length = qs.length → (ps.map f = qs.map g ↔ ∀ z ∈ ps.zip qs, f z.1 = g z.2)
  | [], [], _ => by simp
  | [], _ :: _, h => by simp at h
  | _ :: _, [], h => by simp at h
  | p :: ps, q :: qs, h => by
    simp only [List.map_cons, List.cons.injEq, List.zip_cons_cons, List.mem_cons, forall_eq_or_imp]
    rw [map_zip (by simpa using h)]
theorem flat_zip {α β γ : Type} {A : α → List γ} {B : β → List γ} {m : Nat} (ha : ∀ x, (A x).length = m) (hb : ∀ y, (B y).length = m) : ∀ {ps : List α} {qs : List β}, ps.length = qs.length → (ps.flatMap A = qs.flatMap B ↔ ∀ z ∈ ps.zip qs, A z.1 = B z.2)
  | [], [], _ => by simp
  | [], _ :: _, h => by simp at h
  | _ :: _, [], h => by simp at h
  | p :: ps, q :: qs, h => by
    simp only [List.flatMap_cons, List.zip_cons_cons, List.mem_cons, forall_eq_or_imp]
    rw [← flat_zip ha hb (by simpa using h)]
    constructor
    · intro e
      exact List.append_inj e (by rw [ha, hb])
    · rintro ⟨e1, e2⟩; rw [e1, e2]
theorem plain_iff {w v ps qs : List Nat} (hl : ps.length = qs.length) (hp : ∀ p ∈ ps, p ≤ w.length) (hq : ∀ p ∈ qs, p ≤ v.length) : plainD w ps = plainD v qs ↔ E 0 w v (ps.zip qs) := by
  have bd : ∀ z ∈ ps.zip qs, z.1 ≤ w.length ∧ z.2 ≤ v.length := fun z hz => ⟨hp _ (List.of_mem_zip hz).1, hq _ (List.of_mem_zip hz).2⟩
  simp only [plainD, D.tup.injEq, List.cons.injEq, and_true]
  rw [map_zip hl, flat_zip (m := ps.length) (fun x => List.length_map ..) (fun x => by rw [List.length_map, hl]) hl]
  constructor
  · rintro ⟨h1, h2⟩ z hz
    refine ⟨⟨(bd z hz).1, (bd z hz).2, by simpa using h1 z hz⟩, fun z' hz' => ?_⟩
    have := (map_zip hl).mp (h2 z hz) z' hz'
    simpa using this
  · intro h
    refine ⟨fun z hz => by rw [(h z hz).1.2.2], fun z hz => (map_zip hl).mpr fun z' hz' => by rw [(h z hz).2 z' hz']⟩
theorem sorted_eq : ∀ {a b : List Nat}, a.Pairwise (· < ·) → b.Pairwise (· < ·) → (∀ k, k ∈ a ↔ k ∈ b) → a = b
  | [], [], _, _, _ => rfl
  | [], y :: b, _, _, h => absurd ((h y).mpr (List.mem_cons_self ..)) (by simp)
  | x :: a, [], _, _, h => absurd ((h x).mp (List.mem_cons_self ..)) (by simp)
  | x :: a, y :: b, ha, hb, h => by
    obtain ⟨a1, a2⟩ := List.pairwise_cons.mp ha
    obtain ⟨b1, b2⟩ := List.pairwise_cons.mp hb
    have e : x = y := by
      rcases List.mem_cons.mp ((h x).mp (List.mem_cons_self ..)) with e | e
      · exact e
      · rcases List.mem_cons.mp ((h y).mpr (List.mem_cons_self ..)) with e' | e'
        · exact e'.symm
        · have := b1 x e; have := a1 y e'; omega
    subst e
    rw [sorted_eq a2 b2 fun k => ?_]
    constructor
    · intro hk
      rcases List.mem_cons.mp ((h k).mp (List.mem_cons_of_mem _ hk)) with e | e
      · subst e; exact absurd (a1 k hk) (Nat.lt_irrefl k)
      · exact e
    · intro hk
      rcases List.mem_cons.mp ((h k).mpr (List.mem_cons_of_mem _ hk)) with e | e
      · subst e; exact absurd (b1 k hk) (Nat.lt_irrefl k)
      · exact e
theorem natD_inj {a b : List Nat} (h : a.map natD = b.map natD) : a = b := by
  have : ∀ {a b : List Nat}, a.map natD = b.map natD → a = b := fun {a} => by
    induction a with
    | nil => intro b h; cases b <;> simp at h ⊢
    | cons x a ih => intro b h; cases b with
      | nil => simp at h
      | cons y b => simp [natD] at h ⊢; exact ⟨by omega, ih (by simpa [natD] using h.2)⟩
  exact this h
theorem get_inj {ks : List D} (K : KOk ks) {n m : Nat} {d : D} (h1 : ks[n]? = some d) (h2 : ks[m]? = some d) : n = m :=
  (List.getElem?_inj (List.getElem?_eq_some_iff.mp h1).1 K.nd).mp (h1.trans h2.symm)
theorem R_iff {ks : List D} (K : KOk ks) : ∀ {k : Nat} {w v ps qs : List Nat} {n m : Nat}, R ks k w ps n → R ks k v qs m → ps.length = qs.length → (∀ p ∈ ps, p ≤ w.length) → (∀ p ∈ qs, p ≤ v.length) → (n = m ↔ E k w v (ps.zip qs))
  | 0, w, v, ps, qs, n, m, h1, h2, hl, hp, hq => by
    rw [← plain_iff hl hp hq]
    constructor
    · rintro rfl
      have h1' : ks[n]? = some (plainD w ps) := h1
      have h2' : ks[n]? = some (plainD v qs) := h2
      rw [h1'] at h2'; exact Option.some.inj h2'
    · intro e
      have h1' : ks[n]? = some (plainD w ps) := h1
      have h2' : ks[m]? = some (plainD v qs) := h2
      rw [← e] at h2'
      exact get_inj K h1' h2'
  | k + 1, w, v, ps, qs, n, m, ⟨ms, s1, e1, f1, g1⟩, ⟨ns, s2, e2, f2, g2⟩, hl, hp, hq => by
    have bd1 : ∀ a ≤ w.length, ∀ p ∈ ps ++ [a], p ≤ w.length := fun a ha p h => by
      rcases List.mem_append.mp h with h | h
      · exact hp p h
      · simp at h; subst h; exact ha
    have bd2 : ∀ a ≤ v.length, ∀ p ∈ qs ++ [a], p ≤ v.length := fun a ha p h => by
      rcases List.mem_append.mp h with h | h
      · exact hq p h
      · simp at h; subst h; exact ha
    have step : ∀ {a b x y}, a ≤ w.length → b ≤ v.length → R ks k w (ps ++ [a]) x → R ks k v (qs ++ [b]) y → (x = y ↔ E k w v ((a, b) :: ps.zip qs)) := fun {a b x y} ha hb r1 r2 => by
      rw [R_iff K r1 r2 (by simp [hl]) (bd1 a ha) (bd2 b hb), List.zip_append hl]
      constructor
      · exact fun h => h.sub fun z hz => by simp at hz ⊢; exact hz.symm
      · exact fun h => h.sub fun z hz => by simp at hz ⊢; exact hz.symm
    constructor
    · rintro rfl
      rw [e1] at e2
      have em : ms = ns := by
        have := Option.some.inj e2
        simp only [nodeD, D.tup.injEq, List.cons.injEq, and_true, true_and] at this
        exact natD_inj this
      subst em
      constructor
      · intro a ha
        obtain ⟨x, hx, r⟩ := g1 a ha
        obtain ⟨b, hb, r'⟩ := f2 x hx
        exact ⟨b, hb, (step ha hb r r').mp rfl⟩
      · intro b hb
        obtain ⟨x, hx, r⟩ := g2 b hb
        obtain ⟨a, ha, r'⟩ := f1 x hx
        exact ⟨a, ha, (step ha hb r' r).mp rfl⟩
    · intro h
      have em : ms = ns := sorted_eq s1 s2 fun x => by
        constructor
        · intro hx
          obtain ⟨a, ha, r⟩ := f1 x hx
          obtain ⟨b, hb, e⟩ := h.1 a ha
          obtain ⟨y, hy, r'⟩ := g2 b hb
          rw [(step ha hb r r').mpr e]; exact hy
        · intro hx
          obtain ⟨b, hb, r⟩ := f2 x hx
          obtain ⟨a, ha, e⟩ := h.2 b hb
          obtain ⟨y, hy, r'⟩ := g1 a ha
          rw [← (step ha hb r' r).mpr e]; exact hy
      subst em
      exact get_inj K e1 e2
end PW
end

section
set_option linter.all false
set_option maxHeartbeats 4000000
set_option maxRecDepth 100000
/-! G5: kind_number. -/
namespace PW
open GM
def cost : Nat → Nat → Nat
  | 0, _ => 1
  | k + 1, n => (n + 1) * cost k n + 1
theorem cost_pos (k n : Nat) : 1 ≤ cost k n := by cases k <;> simp [cost]
def φ_kind_numberN (N : Nat) : FSpec := fun ss q _ => ∃ w ps k ks, k < N ∧ w.length ≤ 50 ∧ (∀ p ∈ ps, p ≤ w.length) ∧ ps.length + k ≤ 6 ∧ KOk ks ∧ ks.length + cost k w.length ≤ 10000000 ∧ ss = [.sh (.str w), .sh (plD ps), .sh (natD k), .bo (.dit (numD 0 ks))] ∧
  ∀ ks' n, KOk ks' → ks <+: ks' → ks'.length ≤ ks.length + cost k w.length → R ks' k w ps n → q (.sh (natD n)) [.sh (.str w), .sh (plD ps), .sh (natD k), .bo (.dit (numD 0 ks'))]
theorem len_kind_numberN (N : Nat) : ∀ ss q e, φ_kind_numberN N ss q e → ss.length = 4 := by rintro ss q e ⟨w, ps, k, ks, _, _, _, _, _, _, rfl, _⟩; rfl
theorem no_kind_numberN : ∀ ss q e, ¬ φ_kind_numberN 0 ss q e := by rintro ss q e ⟨w, ps, k, ks, h, _⟩; omega
theorem plain_tk (w ps : List Nat) : isTk (plainD w ps) = true := by
  have h1 : ∀ (l : List D) n, (∀ d ∈ l, keyB d n = true) → keyBL l n = true := fun l n => by
    induction l with
    | nil => intro _; rfl
    | cons d l ih => intro h; simp [keyBL, h d (List.mem_cons_self ..), ih fun d hd => h d (List.mem_cons_of_mem _ hd)]
  simp only [plainD, isTk, keyB, keyBL, Bool.and_true, Bool.and_eq_true]
  refine ⟨h1 _ _ fun d hd => ?_, h1 _ _ fun d hd => ?_⟩
  · obtain ⟨p, _, rfl⟩ := List.mem_map.mp hd; rfl
  · obtain ⟨x, _, hx⟩ := List.mem_flatMap.mp hd
    obtain ⟨y, _, rfl⟩ := List.mem_map.mp hx; rfl
theorem node_tk (k : Nat) (ms : List Nat) : isTk (nodeD k ms) = true := by
  have h1 : ∀ (l : List D) n, (∀ d ∈ l, keyB d n = true) → keyBL l n = true := fun l n => by
    induction l with
    | nil => intro _; rfl
    | cons d l ih => intro h; simp [keyBL, h d (List.mem_cons_self ..), ih fun d hd => h d (List.mem_cons_of_mem _ hd)]
  simp only [nodeD, isTk, keyB, keyBL, Bool.and_true, natD, Bool.true_and]
  refine h1 _ _ fun d hd => ?_
  obtain ⟨p, _, rfl⟩ := List.mem_map.mp hd; rfl
theorem ints_nat (ms : List Nat) : intsOf (ms.map natD) = some (ms.map fun m : Nat => (m : Int)) := by
  induction ms with
  | nil => rfl
  | cons m ms ih => simp [natD, intsOf] at ih ⊢; simp [ih]
def w_kind_number (φ_kind_number : PW.FSpec) : PW.WS :=
 (PW.sSeq (PW.sIf (PW.tB (PW.wLkB PW.fEq (PW.rN 2) (PW.rE (PW.wC (.int 0)))))
 (PW.sSet 4 (PW.wSh (PW.kCall φ_plain_kind [] (PW.bV (PW.wV 0) (PW.bV (PW.wV 1) PW.bNil)))))
 (PW.sSeq (PW.sNew 5 (PW.nLc [6] (PW.iRng1 (PW.wBin PW.fAdd (PW.wLk PW.fLen (PW.rN 0)) (PW.wC (.int 1)))) (PW.gN 6) PW.tYes (PW.wSh (PW.kCall φ_kind_number [] (PW.bV (PW.wV 0) (PW.bV (PW.wBin PW.fAdd (PW.wV 1) (PW.wTup (PW.aCons (PW.wV 6) PW.aNil))) (PW.bV (PW.wBin PW.fSub (PW.wV 2) (PW.wC (.int 1))) (PW.bB 3 PW.bNil))))))))
 (PW.sSet 4 (PW.wTup (PW.aCons (PW.wV 2) (PW.aCons (PW.wLk PW.fTuple (PW.rE (PW.wLk PW.fSortSet (PW.rN 5)))) PW.aNil))))))
 (PW.sSeq (PW.sIf (PW.tB (PW.wLkB PW.fDnin (PW.rN 4) (PW.rN 3)))
 (PW.sDput 3 (PW.wV 4) (PW.wLk PW.fDlen (PW.rN 3)))
 PW.sPass)
 (PW.sRet (PW.wLk2 PW.fDget (PW.rN 3) (PW.wV 4)))))

theorem hs_kind_numberN (N : Nat) : Does (φ_kind_numberN (N + 1)) 7 (w_kind_number (φ_kind_numberN N)) := by
  rintro ss q e ⟨w, ps, k, ks, hk, hw, hp, hpk, K, hc, rfl, h⟩
  refine seq_cut (fun ρ => ∃ ks' key s5, KOk ks' ∧ ks <+: ks' ∧ ks'.length + 1 ≤ ks.length + cost k w.length ∧ isTk key = true ∧ (∀ ks'' n, ks' <+: ks'' → ks''[n]? = some key → R ks'' k w ps n) ∧ isBo s5 = false ∧
    ρ = [.sh (.str w), .sh (plD ps), .sh (natD k), .bo (.dit (numD 0 ks')), .sh key, s5, .un]) (fun K2 hK2 => ?_) ?_
  · simp [PW.sSeq, PW.sPass, PW.sBreak, PW.sCont, PW.sNever, PW.sExpr, PW.sSet, PW.sNew, PW.sPut, PW.sApp, PW.sFld, PW.sAsg, PW.sRet, PW.sRetN, PW.sRetF, PW.sRetO, PW.sIf, PW.sFor, PW.gN, PW.gT, PW.gUn, PW.wC, PW.wV, PW.rN, PW.rE, PW.peek, PW.wUn, PW.wBin, PW.wLk, PW.wLk2, PW.wLkR, PW.wLkB, PW.tB, PW.tTr, PW.truth, PW.tAnd, PW.tOr, PW.tNot, PW.tYes, PW.wAnd, PW.wOr, PW.wNot, PW.wIf, PW.wChain, PW.aNil, PW.aCons, PW.wTup, PW.nLst, PW.nCat, PW.nRep, PW.wPart, PW.fSl, PW.wSl, PW.nSl, PW.wSlL, PW.fAdd, PW.fSub, PW.fMul, PW.fFdiv, PW.fMod, PW.fPow, PW.fShl, PW.fShr, PW.fAnd, PW.fOr, PW.fXor, PW.fNeg, PW.fLt, PW.fLe, PW.fGt, PW.fGe, PW.fEq, PW.fNe, PW.fIsNone, PW.fIsntNone, PW.isNon, PW.fIn, PW.fNotIn, PW.fIx, PW.fLen, PW.fInt, PW.fAbs, PW.fMax2, PW.fMin2, PW.fTuple, PW.fList, PW.fMaxL, PW.fMinL, PW.fIs, PW.isTy, PW.fIsO, PW.fFld, PW.fCon, PW.fTab, PW.fInTab, PW.fNInTab, PW.plain, PW.plainL, PW.eqv, PW.eqvL, PW.small, PW.putO, PW.free, PW.isBo_sh, PW.isBo_un, PW.isBo_ow, PW.isBo_rd, PW.wipe, PW.unwipe, PW.isLst, PW.putF, PW.iSeq, PW.iStr, PW.iRng1, PW.iRng2, PW.iRngD, PW.iEnum, PW.iZip, PW.items, PW.bNil, PW.bV, PW.bB, PW.bR, PW.kCall, PW.kMeth, PW.kMake, PW.oV, PW.oR, PW.oB, PW.isObj, PW.isCls, PW.wSh, PW.nFr, PW.wInO, PW.wNInO, PW.call, PW.lent, PW.lentB, PW.lentR, PW.lentOk, PW.back_nil, PW.back_v, PW.back_r, PW.back_b, PW.entry, PW.noX, PW.b2i, PW.nLc, PW.fDget, PW.fDin, PW.fDnin, PW.fDlen, PW.nDit, PW.nDic, PW.sDput, PW.putKv, PW.dKv, PW.fSortSet, PW.wMt, PW.fSIndex, PW.fSFind, PW.isStr, PW.isLst1, PW.nLc2, PW.elt1, PW.elt2, line_eq, natD]
    cases k with
    | zero =>
      simp [PW.sSeq, PW.sPass, PW.sBreak, PW.sCont, PW.sNever, PW.sExpr, PW.sSet, PW.sNew, PW.sPut, PW.sApp, PW.sFld, PW.sAsg, PW.sRet, PW.sRetN, PW.sRetF, PW.sRetO, PW.sIf, PW.sFor, PW.gN, PW.gT, PW.gUn, PW.wC, PW.wV, PW.rN, PW.rE, PW.peek, PW.wUn, PW.wBin, PW.wLk, PW.wLk2, PW.wLkR, PW.wLkB, PW.tB, PW.tTr, PW.truth, PW.tAnd, PW.tOr, PW.tNot, PW.tYes, PW.wAnd, PW.wOr, PW.wNot, PW.wIf, PW.wChain, PW.aNil, PW.aCons, PW.wTup, PW.nLst, PW.nCat, PW.nRep, PW.wPart, PW.fSl, PW.wSl, PW.nSl, PW.wSlL, PW.fAdd, PW.fSub, PW.fMul, PW.fFdiv, PW.fMod, PW.fPow, PW.fShl, PW.fShr, PW.fAnd, PW.fOr, PW.fXor, PW.fNeg, PW.fLt, PW.fLe, PW.fGt, PW.fGe, PW.fEq, PW.fNe, PW.fIsNone, PW.fIsntNone, PW.isNon, PW.fIn, PW.fNotIn, PW.fIx, PW.fLen, PW.fInt, PW.fAbs, PW.fMax2, PW.fMin2, PW.fTuple, PW.fList, PW.fMaxL, PW.fMinL, PW.fIs, PW.isTy, PW.fIsO, PW.fFld, PW.fCon, PW.fTab, PW.fInTab, PW.fNInTab, PW.plain, PW.plainL, PW.eqv, PW.eqvL, PW.small, PW.putO, PW.free, PW.isBo_sh, PW.isBo_un, PW.isBo_ow, PW.isBo_rd, PW.wipe, PW.unwipe, PW.isLst, PW.putF, PW.iSeq, PW.iStr, PW.iRng1, PW.iRng2, PW.iRngD, PW.iEnum, PW.iZip, PW.items, PW.bNil, PW.bV, PW.bB, PW.bR, PW.kCall, PW.kMeth, PW.kMake, PW.oV, PW.oR, PW.oB, PW.isObj, PW.isCls, PW.wSh, PW.nFr, PW.wInO, PW.wNInO, PW.call, PW.lent, PW.lentB, PW.lentR, PW.lentOk, PW.back_nil, PW.back_v, PW.back_r, PW.back_b, PW.entry, PW.noX, PW.b2i, PW.nLc, PW.fDget, PW.fDin, PW.fDnin, PW.fDlen, PW.nDit, PW.nDic, PW.sDput, PW.putKv, PW.dKv, PW.fSortSet, PW.wMt, PW.fSIndex, PW.fSFind, PW.isStr, PW.isLst1, PW.nLc2, PW.elt1, PW.elt2, line_eq]
      refine ⟨w, ps, hp, by omega, by omega, rfl, fun os => ?_⟩
      simp [PW.sSeq, PW.sPass, PW.sBreak, PW.sCont, PW.sNever, PW.sExpr, PW.sSet, PW.sNew, PW.sPut, PW.sApp, PW.sFld, PW.sAsg, PW.sRet, PW.sRetN, PW.sRetF, PW.sRetO, PW.sIf, PW.sFor, PW.gN, PW.gT, PW.gUn, PW.wC, PW.wV, PW.rN, PW.rE, PW.peek, PW.wUn, PW.wBin, PW.wLk, PW.wLk2, PW.wLkR, PW.wLkB, PW.tB, PW.tTr, PW.truth, PW.tAnd, PW.tOr, PW.tNot, PW.tYes, PW.wAnd, PW.wOr, PW.wNot, PW.wIf, PW.wChain, PW.aNil, PW.aCons, PW.wTup, PW.nLst, PW.nCat, PW.nRep, PW.wPart, PW.fSl, PW.wSl, PW.nSl, PW.wSlL, PW.fAdd, PW.fSub, PW.fMul, PW.fFdiv, PW.fMod, PW.fPow, PW.fShl, PW.fShr, PW.fAnd, PW.fOr, PW.fXor, PW.fNeg, PW.fLt, PW.fLe, PW.fGt, PW.fGe, PW.fEq, PW.fNe, PW.fIsNone, PW.fIsntNone, PW.isNon, PW.fIn, PW.fNotIn, PW.fIx, PW.fLen, PW.fInt, PW.fAbs, PW.fMax2, PW.fMin2, PW.fTuple, PW.fList, PW.fMaxL, PW.fMinL, PW.fIs, PW.isTy, PW.fIsO, PW.fFld, PW.fCon, PW.fTab, PW.fInTab, PW.fNInTab, PW.plain, PW.plainL, PW.eqv, PW.eqvL, PW.small, PW.putO, PW.free, PW.isBo_sh, PW.isBo_un, PW.isBo_ow, PW.isBo_rd, PW.wipe, PW.unwipe, PW.isLst, PW.putF, PW.iSeq, PW.iStr, PW.iRng1, PW.iRng2, PW.iRngD, PW.iEnum, PW.iZip, PW.items, PW.bNil, PW.bV, PW.bB, PW.bR, PW.kCall, PW.kMeth, PW.kMake, PW.oV, PW.oR, PW.oB, PW.isObj, PW.isCls, PW.wSh, PW.nFr, PW.wInO, PW.wNInO, PW.call, PW.lent, PW.lentB, PW.lentR, PW.lentOk, PW.back_nil, PW.back_v, PW.back_r, PW.back_b, PW.entry, PW.noX, PW.b2i, PW.nLc, PW.fDget, PW.fDin, PW.fDnin, PW.fDlen, PW.nDit, PW.nDic, PW.sDput, PW.putKv, PW.dKv, PW.fSortSet, PW.wMt, PW.fSIndex, PW.fSFind, PW.isStr, PW.isLst1, PW.nLc2, PW.elt1, PW.elt2]
      exact hK2 _ ⟨ks, plainD w ps, .un, K, List.prefix_refl _, by simp [cost], plain_tk w ps, fun ks'' n _ e => e, rfl, rfl⟩
    | succ k =>
      have hl : w.length ≤ 16777216 := by omega
      have e0 : ¬ ((k : Int) + 1 = 0) := by omega
      simp [PW.sSeq, PW.sPass, PW.sBreak, PW.sCont, PW.sNever, PW.sExpr, PW.sSet, PW.sNew, PW.sPut, PW.sApp, PW.sFld, PW.sAsg, PW.sRet, PW.sRetN, PW.sRetF, PW.sRetO, PW.sIf, PW.sFor, PW.gN, PW.gT, PW.gUn, PW.wC, PW.wV, PW.rN, PW.rE, PW.peek, PW.wUn, PW.wBin, PW.wLk, PW.wLk2, PW.wLkR, PW.wLkB, PW.tB, PW.tTr, PW.truth, PW.tAnd, PW.tOr, PW.tNot, PW.tYes, PW.wAnd, PW.wOr, PW.wNot, PW.wIf, PW.wChain, PW.aNil, PW.aCons, PW.wTup, PW.nLst, PW.nCat, PW.nRep, PW.wPart, PW.fSl, PW.wSl, PW.nSl, PW.wSlL, PW.fAdd, PW.fSub, PW.fMul, PW.fFdiv, PW.fMod, PW.fPow, PW.fShl, PW.fShr, PW.fAnd, PW.fOr, PW.fXor, PW.fNeg, PW.fLt, PW.fLe, PW.fGt, PW.fGe, PW.fEq, PW.fNe, PW.fIsNone, PW.fIsntNone, PW.isNon, PW.fIn, PW.fNotIn, PW.fIx, PW.fLen, PW.fInt, PW.fAbs, PW.fMax2, PW.fMin2, PW.fTuple, PW.fList, PW.fMaxL, PW.fMinL, PW.fIs, PW.isTy, PW.fIsO, PW.fFld, PW.fCon, PW.fTab, PW.fInTab, PW.fNInTab, PW.plain, PW.plainL, PW.eqv, PW.eqvL, PW.small, PW.putO, PW.free, PW.isBo_sh, PW.isBo_un, PW.isBo_ow, PW.isBo_rd, PW.wipe, PW.unwipe, PW.isLst, PW.putF, PW.iSeq, PW.iStr, PW.iRng1, PW.iRng2, PW.iRngD, PW.iEnum, PW.iZip, PW.items, PW.bNil, PW.bV, PW.bB, PW.bR, PW.kCall, PW.kMeth, PW.kMake, PW.oV, PW.oR, PW.oB, PW.isObj, PW.isCls, PW.wSh, PW.nFr, PW.wInO, PW.wNInO, PW.call, PW.lent, PW.lentB, PW.lentR, PW.lentOk, PW.back_nil, PW.back_v, PW.back_r, PW.back_b, PW.entry, PW.noX, PW.b2i, PW.nLc, PW.fDget, PW.fDin, PW.fDnin, PW.fDlen, PW.nDit, PW.nDic, PW.sDput, PW.putKv, PW.dKv, PW.fSortSet, PW.wMt, PW.fSIndex, PW.fSFind, PW.isStr, PW.isLst1, PW.nLc2, PW.elt1, PW.elt2, line_eq, hl, e0]
      refine ⟨by unfold rngB; omega, ?_⟩
      have hcs : cost (k + 1) w.length = (w.length + 1) * cost k w.length + 1 := rfl
      refine lc_ix _ (fun i acc ρ => ∃ ks' ms, acc = ms.map natD ∧ ms.length = i ∧ KOk ks' ∧ ks <+: ks' ∧ ks'.length ≤ ks.length + i * cost k w.length ∧ (∀ m ∈ ms, ∃ a ≤ w.length, R ks' k w (ps ++ [a]) m) ∧ (∀ a < i, ∃ m ∈ ms, R ks' k w (ps ++ [a]) m) ∧
        ρ = [.sh (.str w), .sh (plD ps), .sh (.int (k + 1)), .bo (.dit (numD 0 ks')), .un, .un, .un]) ⟨ks, [], rfl, rfl, K, List.prefix_refl _, by simp, by simp, by simp, rfl⟩ ?_ ?_
      · rintro i d acc ρ K3 hd ⟨ks', ms, rfl, hms, K', hpre, hle, f1, f2, rfl⟩ hK3
        obtain ⟨hi, rfl⟩ := rng_some hd
        have hmul : (i + 1) * cost k w.length ≤ (w.length + 1) * cost k w.length := Nat.mul_le_mul_right _ (by omega)
        rw [Nat.succ_mul] at hmul
        simp [PW.sSeq, PW.sPass, PW.sBreak, PW.sCont, PW.sNever, PW.sExpr, PW.sSet, PW.sNew, PW.sPut, PW.sApp, PW.sFld, PW.sAsg, PW.sRet, PW.sRetN, PW.sRetF, PW.sRetO, PW.sIf, PW.sFor, PW.gN, PW.gT, PW.gUn, PW.wC, PW.wV, PW.rN, PW.rE, PW.peek, PW.wUn, PW.wBin, PW.wLk, PW.wLk2, PW.wLkR, PW.wLkB, PW.tB, PW.tTr, PW.truth, PW.tAnd, PW.tOr, PW.tNot, PW.tYes, PW.wAnd, PW.wOr, PW.wNot, PW.wIf, PW.wChain, PW.aNil, PW.aCons, PW.wTup, PW.nLst, PW.nCat, PW.nRep, PW.wPart, PW.fSl, PW.wSl, PW.nSl, PW.wSlL, PW.fAdd, PW.fSub, PW.fMul, PW.fFdiv, PW.fMod, PW.fPow, PW.fShl, PW.fShr, PW.fAnd, PW.fOr, PW.fXor, PW.fNeg, PW.fLt, PW.fLe, PW.fGt, PW.fGe, PW.fEq, PW.fNe, PW.fIsNone, PW.fIsntNone, PW.isNon, PW.fIn, PW.fNotIn, PW.fIx, PW.fLen, PW.fInt, PW.fAbs, PW.fMax2, PW.fMin2, PW.fTuple, PW.fList, PW.fMaxL, PW.fMinL, PW.fIs, PW.isTy, PW.fIsO, PW.fFld, PW.fCon, PW.fTab, PW.fInTab, PW.fNInTab, PW.plain, PW.plainL, PW.eqv, PW.eqvL, PW.small, PW.putO, PW.free, PW.isBo_sh, PW.isBo_un, PW.isBo_ow, PW.isBo_rd, PW.wipe, PW.unwipe, PW.isLst, PW.putF, PW.iSeq, PW.iStr, PW.iRng1, PW.iRng2, PW.iRngD, PW.iEnum, PW.iZip, PW.items, PW.bNil, PW.bV, PW.bB, PW.bR, PW.kCall, PW.kMeth, PW.kMake, PW.oV, PW.oR, PW.oB, PW.isObj, PW.isCls, PW.wSh, PW.nFr, PW.wInO, PW.wNInO, PW.call, PW.lent, PW.lentB, PW.lentR, PW.lentOk, PW.back_nil, PW.back_v, PW.back_r, PW.back_b, PW.entry, PW.noX, PW.b2i, PW.nLc, PW.fDget, PW.fDin, PW.fDnin, PW.fDlen, PW.nDit, PW.nDic, PW.sDput, PW.putKv, PW.dKv, PW.fSortSet, PW.wMt, PW.fSIndex, PW.fSFind, PW.isStr, PW.isLst1, PW.nLc2, PW.elt1, PW.elt2, line_eq, plD]
        refine ⟨by omega, ?_⟩
        refine ⟨w, ps ++ [i], k, ks', by omega, hw, fun p hpm => ?_, by simp; omega, K', by omega, by simp [plD, natD], fun ks2 n K2' hpre2 hle2 r => ?_⟩
        · rcases List.mem_append.mp hpm with h1 | h1
          · exact hp p h1
          · simp at h1; omega
        · simp [PW.sSeq, PW.sPass, PW.sBreak, PW.sCont, PW.sNever, PW.sExpr, PW.sSet, PW.sNew, PW.sPut, PW.sApp, PW.sFld, PW.sAsg, PW.sRet, PW.sRetN, PW.sRetF, PW.sRetO, PW.sIf, PW.sFor, PW.gN, PW.gT, PW.gUn, PW.wC, PW.wV, PW.rN, PW.rE, PW.peek, PW.wUn, PW.wBin, PW.wLk, PW.wLk2, PW.wLkR, PW.wLkB, PW.tB, PW.tTr, PW.truth, PW.tAnd, PW.tOr, PW.tNot, PW.tYes, PW.wAnd, PW.wOr, PW.wNot, PW.wIf, PW.wChain, PW.aNil, PW.aCons, PW.wTup, PW.nLst, PW.nCat, PW.nRep, PW.wPart, PW.fSl, PW.wSl, PW.nSl, PW.wSlL, PW.fAdd, PW.fSub, PW.fMul, PW.fFdiv, PW.fMod, PW.fPow, PW.fShl, PW.fShr, PW.fAnd, PW.fOr, PW.fXor, PW.fNeg, PW.fLt, PW.fLe, PW.fGt, PW.fGe, PW.fEq, PW.fNe, PW.fIsNone, PW.fIsntNone, PW.isNon, PW.fIn, PW.fNotIn, PW.fIx, PW.fLen, PW.fInt, PW.fAbs, PW.fMax2, PW.fMin2, PW.fTuple, PW.fList, PW.fMaxL, PW.fMinL, PW.fIs, PW.isTy, PW.fIsO, PW.fFld, PW.fCon, PW.fTab, PW.fInTab, PW.fNInTab, PW.plain, PW.plainL, PW.eqv, PW.eqvL, PW.small, PW.putO, PW.free, PW.isBo_sh, PW.isBo_un, PW.isBo_ow, PW.isBo_rd, PW.wipe, PW.unwipe, PW.isLst, PW.putF, PW.iSeq, PW.iStr, PW.iRng1, PW.iRng2, PW.iRngD, PW.iEnum, PW.iZip, PW.items, PW.bNil, PW.bV, PW.bB, PW.bR, PW.kCall, PW.kMeth, PW.kMake, PW.oV, PW.oR, PW.oB, PW.isObj, PW.isCls, PW.wSh, PW.nFr, PW.wInO, PW.wNInO, PW.call, PW.lent, PW.lentB, PW.lentR, PW.lentOk, PW.back_nil, PW.back_v, PW.back_r, PW.back_b, PW.entry, PW.noX, PW.b2i, PW.nLc, PW.fDget, PW.fDin, PW.fDnin, PW.fDlen, PW.nDit, PW.nDic, PW.sDput, PW.putKv, PW.dKv, PW.fSortSet, PW.wMt, PW.fSIndex, PW.fSFind, PW.isStr, PW.isLst1, PW.nLc2, PW.elt1, PW.elt2, line_eq]
          refine ⟨by omega, hK3 _ _ ⟨ks2, ms ++ [n], by simp, by simp [hms], K2', hpre.trans hpre2, by rw [Nat.succ_mul]; omega, fun m hm => ?_, fun a ha => ?_, by simp [plD, natD]⟩⟩
          · rcases List.mem_append.mp hm with h1 | h1
            · obtain ⟨a, ha, r'⟩ := f1 m h1; exact ⟨a, ha, r'.mono hpre2⟩
            · simp at h1; subst h1; exact ⟨i, by omega, r⟩
          · by_cases c : a < i
            · obtain ⟨m, hm, r'⟩ := f2 a c; exact ⟨m, List.mem_append_left _ hm, r'.mono hpre2⟩
            · have : a = i := by omega
              subst this; exact ⟨n, by simp, r⟩
      · rintro acc ρ ⟨ks', ms, rfl, hms, K', hpre, hle, f1, f2, rfl⟩
        rw [rng_len] at hms hle f2
        simp [PW.sSeq, PW.sPass, PW.sBreak, PW.sCont, PW.sNever, PW.sExpr, PW.sSet, PW.sNew, PW.sPut, PW.sApp, PW.sFld, PW.sAsg, PW.sRet, PW.sRetN, PW.sRetF, PW.sRetO, PW.sIf, PW.sFor, PW.gN, PW.gT, PW.gUn, PW.wC, PW.wV, PW.rN, PW.rE, PW.peek, PW.wUn, PW.wBin, PW.wLk, PW.wLk2, PW.wLkR, PW.wLkB, PW.tB, PW.tTr, PW.truth, PW.tAnd, PW.tOr, PW.tNot, PW.tYes, PW.wAnd, PW.wOr, PW.wNot, PW.wIf, PW.wChain, PW.aNil, PW.aCons, PW.wTup, PW.nLst, PW.nCat, PW.nRep, PW.wPart, PW.fSl, PW.wSl, PW.nSl, PW.wSlL, PW.fAdd, PW.fSub, PW.fMul, PW.fFdiv, PW.fMod, PW.fPow, PW.fShl, PW.fShr, PW.fAnd, PW.fOr, PW.fXor, PW.fNeg, PW.fLt, PW.fLe, PW.fGt, PW.fGe, PW.fEq, PW.fNe, PW.fIsNone, PW.fIsntNone, PW.isNon, PW.fIn, PW.fNotIn, PW.fIx, PW.fLen, PW.fInt, PW.fAbs, PW.fMax2, PW.fMin2, PW.fTuple, PW.fList, PW.fMaxL, PW.fMinL, PW.fIs, PW.isTy, PW.fIsO, PW.fFld, PW.fCon, PW.fTab, PW.fInTab, PW.fNInTab, PW.plain, PW.plainL, PW.eqv, PW.eqvL, PW.small, PW.putO, PW.free, PW.isBo_sh, PW.isBo_un, PW.isBo_ow, PW.isBo_rd, PW.wipe, PW.unwipe, PW.isLst, PW.putF, PW.iSeq, PW.iStr, PW.iRng1, PW.iRng2, PW.iRngD, PW.iEnum, PW.iZip, PW.items, PW.bNil, PW.bV, PW.bB, PW.bR, PW.kCall, PW.kMeth, PW.kMake, PW.oV, PW.oR, PW.oB, PW.isObj, PW.isCls, PW.wSh, PW.nFr, PW.wInO, PW.wNInO, PW.call, PW.lent, PW.lentB, PW.lentR, PW.lentOk, PW.back_nil, PW.back_v, PW.back_r, PW.back_b, PW.entry, PW.noX, PW.b2i, PW.nLc, PW.fDget, PW.fDin, PW.fDnin, PW.fDlen, PW.nDit, PW.nDic, PW.sDput, PW.putKv, PW.dKv, PW.fSortSet, PW.wMt, PW.fSIndex, PW.fSFind, PW.isStr, PW.isLst1, PW.nLc2, PW.elt1, PW.elt2, line_eq, plD]
        refine ⟨_, ints_nat ms, by simp; omega, fun zs hz hzm => ?_⟩
        -- the numbers are not negative
        obtain ⟨ns, rfl⟩ : ∃ ns : List Nat, zs = ns.map fun m : Nat => (m : Int) := by
          refine ⟨zs.map Int.toNat, ?_⟩
          rw [List.map_map]
          conv => lhs; rw [← List.map_id zs]
          refine List.map_congr_left fun z hz' => ?_
          obtain ⟨m, _, rfl⟩ := List.mem_map.mp ((hzm z).mp hz')
          simp
        have hn : ns.Pairwise (· < ·) := by
          rw [List.pairwise_map] at hz
          exact hz.imp fun h => by omega
        have hnm : ∀ m, m ∈ ns ↔ m ∈ ms := fun m => by
          have := hzm (m : Int)
          simp only [List.mem_map, Int.natCast_inj, exists_eq_right] at this
          exact this
        refine hK2 _ ⟨ks', nodeD (k + 1) ns, .ow (.lst (ms.map natD)), K', hpre, by omega, node_tk _ _, fun ks2 n hp2 e => ⟨ns, hn, e, fun m hm => ?_, fun a ha => ?_⟩, rfl, ?_⟩
        · obtain ⟨a, ha, r⟩ := f1 m ((hnm m).mp hm); exact ⟨a, ha, r.mono hp2⟩
        · obtain ⟨m, hm, r⟩ := f2 a (by omega); exact ⟨m, (hnm m).mpr hm, r.mono hp2⟩
        · simp [nodeD, natD, plD]
  · rintro ρ ⟨ks', key, s5, K', hpre, hlen, htk, hR, h5, rfl⟩
    have hc2 : ks.length + cost k w.length ≤ 10000000 := hc
    simp [PW.sSeq, PW.sPass, PW.sBreak, PW.sCont, PW.sNever, PW.sExpr, PW.sSet, PW.sNew, PW.sPut, PW.sApp, PW.sFld, PW.sAsg, PW.sRet, PW.sRetN, PW.sRetF, PW.sRetO, PW.sIf, PW.sFor, PW.gN, PW.gT, PW.gUn, PW.wC, PW.wV, PW.rN, PW.rE, PW.peek, PW.wUn, PW.wBin, PW.wLk, PW.wLk2, PW.wLkR, PW.wLkB, PW.tB, PW.tTr, PW.truth, PW.tAnd, PW.tOr, PW.tNot, PW.tYes, PW.wAnd, PW.wOr, PW.wNot, PW.wIf, PW.wChain, PW.aNil, PW.aCons, PW.wTup, PW.nLst, PW.nCat, PW.nRep, PW.wPart, PW.fSl, PW.wSl, PW.nSl, PW.wSlL, PW.fAdd, PW.fSub, PW.fMul, PW.fFdiv, PW.fMod, PW.fPow, PW.fShl, PW.fShr, PW.fAnd, PW.fOr, PW.fXor, PW.fNeg, PW.fLt, PW.fLe, PW.fGt, PW.fGe, PW.fEq, PW.fNe, PW.fIsNone, PW.fIsntNone, PW.isNon, PW.fIn, PW.fNotIn, PW.fIx, PW.fLen, PW.fInt, PW.fAbs, PW.fMax2, PW.fMin2, PW.fTuple, PW.fList, PW.fMaxL, PW.fMinL, PW.fIs, PW.isTy, PW.fIsO, PW.fFld, PW.fCon, PW.fTab, PW.fInTab, PW.fNInTab, PW.plain, PW.plainL, PW.eqv, PW.eqvL, PW.small, PW.putO, PW.free, PW.isBo_sh, PW.isBo_un, PW.isBo_ow, PW.isBo_rd, PW.wipe, PW.unwipe, PW.isLst, PW.putF, PW.iSeq, PW.iStr, PW.iRng1, PW.iRng2, PW.iRngD, PW.iEnum, PW.iZip, PW.items, PW.bNil, PW.bV, PW.bB, PW.bR, PW.kCall, PW.kMeth, PW.kMake, PW.oV, PW.oR, PW.oB, PW.isObj, PW.isCls, PW.wSh, PW.nFr, PW.wInO, PW.wNInO, PW.call, PW.lent, PW.lentB, PW.lentR, PW.lentOk, PW.back_nil, PW.back_v, PW.back_r, PW.back_b, PW.entry, PW.noX, PW.b2i, PW.nLc, PW.fDget, PW.fDin, PW.fDnin, PW.fDlen, PW.nDit, PW.nDic, PW.sDput, PW.putKv, PW.dKv, PW.fSortSet, PW.wMt, PW.fSIndex, PW.fSFind, PW.isStr, PW.isLst1, PW.nLc2, PW.elt1, PW.elt2, line_eq, htk]
    by_cases hm : key ∈ ks'
    · obtain ⟨n, hn⟩ := List.mem_iff_getElem?.mp hm
      have g := get_some K' htk hn 0
      rw [Nat.zero_add] at g
      simp [g]
      have := h ks' n K' hpre (by omega) (hR ks' n (List.prefix_refl _) hn)
      simpa [PW.sSeq, PW.sPass, PW.sBreak, PW.sCont, PW.sNever, PW.sExpr, PW.sSet, PW.sNew, PW.sPut, PW.sApp, PW.sFld, PW.sAsg, PW.sRet, PW.sRetN, PW.sRetF, PW.sRetO, PW.sIf, PW.sFor, PW.gN, PW.gT, PW.gUn, PW.wC, PW.wV, PW.rN, PW.rE, PW.peek, PW.wUn, PW.wBin, PW.wLk, PW.wLk2, PW.wLkR, PW.wLkB, PW.tB, PW.tTr, PW.truth, PW.tAnd, PW.tOr, PW.tNot, PW.tYes, PW.wAnd, PW.wOr, PW.wNot, PW.wIf, PW.wChain, PW.aNil, PW.aCons, PW.wTup, PW.nLst, PW.nCat, PW.nRep, PW.wPart, PW.fSl, PW.wSl, PW.nSl, PW.wSlL, PW.fAdd, PW.fSub, PW.fMul, PW.fFdiv, PW.fMod, PW.fPow, PW.fShl, PW.fShr, PW.fAnd, PW.fOr, PW.fXor, PW.fNeg, PW.fLt, PW.fLe, PW.fGt, PW.fGe, PW.fEq, PW.fNe, PW.fIsNone, PW.fIsntNone, PW.isNon, PW.fIn, PW.fNotIn, PW.fIx, PW.fLen, PW.fInt, PW.fAbs, PW.fMax2, PW.fMin2, PW.fTuple, PW.fList, PW.fMaxL, PW.fMinL, PW.fIs, PW.isTy, PW.fIsO, PW.fFld, PW.fCon, PW.fTab, PW.fInTab, PW.fNInTab, PW.plain, PW.plainL, PW.eqv, PW.eqvL, PW.small, PW.putO, PW.free, PW.isBo_sh, PW.isBo_un, PW.isBo_ow, PW.isBo_rd, PW.wipe, PW.unwipe, PW.isLst, PW.putF, PW.iSeq, PW.iStr, PW.iRng1, PW.iRng2, PW.iRngD, PW.iEnum, PW.iZip, PW.items, PW.bNil, PW.bV, PW.bB, PW.bR, PW.kCall, PW.kMeth, PW.kMake, PW.oV, PW.oR, PW.oB, PW.isObj, PW.isCls, PW.wSh, PW.nFr, PW.wInO, PW.wNInO, PW.call, PW.lent, PW.lentB, PW.lentR, PW.lentOk, PW.back_nil, PW.back_v, PW.back_r, PW.back_b, PW.entry, PW.noX, PW.b2i, PW.nLc, PW.fDget, PW.fDin, PW.fDnin, PW.fDlen, PW.nDit, PW.nDic, PW.sDput, PW.putKv, PW.dKv, PW.fSortSet, PW.wMt, PW.fSIndex, PW.fSFind, PW.isStr, PW.isLst1, PW.nLc2, PW.elt1, PW.elt2] using this
    · have g := get_none K'.tk htk hm 0
      simp [g, numD_len]
      have hn : (ks' ++ [key])[ks'.length]? = some key := by simp
      have K2' := K'.app htk hm
      have g2 := get_some K2' htk hn 0
      rw [Nat.zero_add] at g2
      have pn := put_new K'.tk htk hm
      have e1 : dPut (numD 0 ks') key (.int ks'.length) = numD 0 (ks' ++ [key]) := pn
      rw [e1]
      simp [g2]
      have := h (ks' ++ [key]) ks'.length K2' (hpre.trans (List.prefix_append _ _)) (by simp; omega) (hR _ _ (List.prefix_append _ _) hn)
      refine ⟨by omega, ?_⟩
      simpa [PW.sSeq, PW.sPass, PW.sBreak, PW.sCont, PW.sNever, PW.sExpr, PW.sSet, PW.sNew, PW.sPut, PW.sApp, PW.sFld, PW.sAsg, PW.sRet, PW.sRetN, PW.sRetF, PW.sRetO, PW.sIf, PW.sFor, PW.gN, PW.gT, PW.gUn, PW.wC, PW.wV, PW.rN, PW.rE, PW.peek, PW.wUn, PW.wBin, PW.wLk, PW.wLk2, PW.wLkR, PW.wLkB, PW.tB, PW.tTr, PW.truth, PW.tAnd, PW.tOr, PW.tNot, PW.tYes, PW.wAnd, PW.wOr, PW.wNot, PW.wIf, PW.wChain, PW.aNil, PW.aCons, PW.wTup, PW.nLst, PW.nCat, PW.nRep, PW.wPart, PW.fSl, PW.wSl, PW.nSl, PW.wSlL, PW.fAdd, PW.fSub, PW.fMul, PW.fFdiv, PW.fMod, PW.fPow, PW.fShl, PW.fShr, PW.fAnd, PW.fOr, PW.fXor, PW.fNeg, PW.fLt, PW.fLe, PW.fGt, PW.fGe, PW.fEq, PW.fNe, PW.fIsNone, PW.fIsntNone, PW.isNon, PW.fIn, PW.fNotIn, PW.fIx, PW.fLen, PW.fInt, PW.fAbs, PW.fMax2, PW.fMin2, PW.fTuple, PW.fList, PW.fMaxL, PW.fMinL, PW.fIs, PW.isTy, PW.fIsO, PW.fFld, PW.fCon, PW.fTab, PW.fInTab, PW.fNInTab, PW.plain, PW.plainL, PW.eqv, PW.eqvL, PW.small, PW.putO, PW.free, PW.isBo_sh, PW.isBo_un, PW.isBo_ow, PW.isBo_rd, PW.wipe, PW.unwipe, PW.isLst, PW.putF, PW.iSeq, PW.iStr, PW.iRng1, PW.iRng2, PW.iRngD, PW.iEnum, PW.iZip, PW.items, PW.bNil, PW.bV, PW.bB, PW.bR, PW.kCall, PW.kMeth, PW.kMake, PW.oV, PW.oR, PW.oB, PW.isObj, PW.isCls, PW.wSh, PW.nFr, PW.wInO, PW.wNInO, PW.call, PW.lent, PW.lentB, PW.lentR, PW.lentOk, PW.back_nil, PW.back_v, PW.back_r, PW.back_b, PW.entry, PW.noX, PW.b2i, PW.nLc, PW.fDget, PW.fDin, PW.fDnin, PW.fDlen, PW.nDit, PW.nDic, PW.sDput, PW.putKv, PW.dKv, PW.fSortSet, PW.wMt, PW.fSIndex, PW.fSFind, PW.isStr, PW.isLst1, PW.nLc2, PW.elt1, PW.elt2] using this
def φ_kind_number : FSpec := φ_kind_numberN 4
end PW
end

section
set_option linter.all false
set_option maxHeartbeats 4000000
set_option maxRecDepth 100000
/-! G6: a game, won or not. -/
namespace PW
open GM
def gameD (s u v : List Nat) (r : Nat) : D := .obj "Game" [("letters", .str s), ("words", .tup [.str u, .str v]), ("rounds", natD r), ("pairs", .tup [])]
def φ_Game___init__ : FSpec := fun ss q _ => ∃ s u v r, Lets s ∧ Over s u ∧ Over s v ∧ u.length ≤ 50 ∧ v.length ≤ 50 ∧ r ≤ 3 ∧ ss = [.bo (.obj "Game" []), .sh (.str s), .sh (.str u), .sh (.str v), .sh (natD r)] ∧
  q (.sh .non) [.bo (gameD s u v r), .sh (.str s), .sh (.str u), .sh (.str v), .sh (natD r)]
theorem len_Game___init__ : ∀ ss q e, φ_Game___init__ ss q e → ss.length = 5 := by rintro ss q e ⟨s, u, v, r, _, _, _, _, _, _, rfl, _⟩; rfl
def w_Game___init__ : PW.WS :=
 (PW.sSeq (PW.sFld 0 "Game" "letters" (PW.wSh (PW.kCall φ_check_letters [] (PW.bV (PW.wV 1) PW.bNil))))
 (PW.sSeq (PW.sFld 0 "Game" "words" (PW.wTup (PW.aCons (PW.wSh (PW.kCall φ_check_word [] (PW.bV (PW.wV 2) (PW.bV (PW.wV 1) PW.bNil)))) (PW.aCons (PW.wSh (PW.kCall φ_check_word [] (PW.bV (PW.wV 3) (PW.bV (PW.wV 1) PW.bNil)))) PW.aNil))))
 (PW.sSeq (PW.sIf (PW.tNot (PW.tB (PW.wChain PW.fLe PW.fLe (PW.wC (.int 0)) (PW.wV 4) (PW.wLk (PW.fCon "Game" "MOST_ROUNDS" (.int 3)) (PW.rN 0)))))
 PW.sNever
 PW.sPass)
 (PW.sSeq (PW.sFld 0 "Game" "rounds" (PW.wV 4))
 (PW.sFld 0 "Game" "pairs" (PW.wTup PW.aNil))))))

theorem hs_Game___init__ : Does φ_Game___init__ 5 w_Game___init__ := by
  rintro ss q e ⟨s, u, v, r, hs, hu, hv, lu, lv, hr, rfl, h⟩
  simp [w_Game___init__, PW.sSeq, PW.sPass, PW.sBreak, PW.sCont, PW.sNever, PW.sExpr, PW.sSet, PW.sNew, PW.sPut, PW.sApp, PW.sFld, PW.sAsg, PW.sRet, PW.sRetN, PW.sRetF, PW.sRetO, PW.sIf, PW.sFor, PW.gN, PW.gT, PW.gUn, PW.wC, PW.wV, PW.rN, PW.rE, PW.peek, PW.wUn, PW.wBin, PW.wLk, PW.wLk2, PW.wLkR, PW.wLkB, PW.tB, PW.tTr, PW.truth, PW.tAnd, PW.tOr, PW.tNot, PW.tYes, PW.wAnd, PW.wOr, PW.wNot, PW.wIf, PW.wChain, PW.aNil, PW.aCons, PW.wTup, PW.nLst, PW.nCat, PW.nRep, PW.wPart, PW.fSl, PW.wSl, PW.nSl, PW.wSlL, PW.fAdd, PW.fSub, PW.fMul, PW.fFdiv, PW.fMod, PW.fPow, PW.fShl, PW.fShr, PW.fAnd, PW.fOr, PW.fXor, PW.fNeg, PW.fLt, PW.fLe, PW.fGt, PW.fGe, PW.fEq, PW.fNe, PW.fIsNone, PW.fIsntNone, PW.isNon, PW.fIn, PW.fNotIn, PW.fIx, PW.fLen, PW.fInt, PW.fAbs, PW.fMax2, PW.fMin2, PW.fTuple, PW.fList, PW.fMaxL, PW.fMinL, PW.fIs, PW.isTy, PW.fIsO, PW.fFld, PW.fCon, PW.fTab, PW.fInTab, PW.fNInTab, PW.plain, PW.plainL, PW.eqv, PW.eqvL, PW.small, PW.putO, PW.free, PW.isBo_sh, PW.isBo_un, PW.isBo_ow, PW.isBo_rd, PW.wipe, PW.unwipe, PW.isLst, PW.putF, PW.iSeq, PW.iStr, PW.iRng1, PW.iRng2, PW.iRngD, PW.iEnum, PW.iZip, PW.items, PW.bNil, PW.bV, PW.bB, PW.bR, PW.kCall, PW.kMeth, PW.kMake, PW.oV, PW.oR, PW.oB, PW.isObj, PW.isCls, PW.wSh, PW.nFr, PW.wInO, PW.wNInO, PW.call, PW.lent, PW.lentB, PW.lentR, PW.lentOk, PW.back_nil, PW.back_v, PW.back_r, PW.back_b, PW.entry, PW.noX, PW.b2i, PW.nLc, PW.fDget, PW.fDin, PW.fDnin, PW.fDlen, PW.nDit, PW.nDic, PW.sDput, PW.putKv, PW.dKv, PW.fSortSet, PW.wMt, PW.fSIndex, PW.fSFind, PW.isStr, PW.isLst1, PW.nLc2, PW.elt1, PW.elt2, line_eq]
  refine ⟨s, hs, rfl, fun os => ?_⟩
  simp [PW.sSeq, PW.sPass, PW.sBreak, PW.sCont, PW.sNever, PW.sExpr, PW.sSet, PW.sNew, PW.sPut, PW.sApp, PW.sFld, PW.sAsg, PW.sRet, PW.sRetN, PW.sRetF, PW.sRetO, PW.sIf, PW.sFor, PW.gN, PW.gT, PW.gUn, PW.wC, PW.wV, PW.rN, PW.rE, PW.peek, PW.wUn, PW.wBin, PW.wLk, PW.wLk2, PW.wLkR, PW.wLkB, PW.tB, PW.tTr, PW.truth, PW.tAnd, PW.tOr, PW.tNot, PW.tYes, PW.wAnd, PW.wOr, PW.wNot, PW.wIf, PW.wChain, PW.aNil, PW.aCons, PW.wTup, PW.nLst, PW.nCat, PW.nRep, PW.wPart, PW.fSl, PW.wSl, PW.nSl, PW.wSlL, PW.fAdd, PW.fSub, PW.fMul, PW.fFdiv, PW.fMod, PW.fPow, PW.fShl, PW.fShr, PW.fAnd, PW.fOr, PW.fXor, PW.fNeg, PW.fLt, PW.fLe, PW.fGt, PW.fGe, PW.fEq, PW.fNe, PW.fIsNone, PW.fIsntNone, PW.isNon, PW.fIn, PW.fNotIn, PW.fIx, PW.fLen, PW.fInt, PW.fAbs, PW.fMax2, PW.fMin2, PW.fTuple, PW.fList, PW.fMaxL, PW.fMinL, PW.fIs, PW.isTy, PW.fIsO, PW.fFld, PW.fCon, PW.fTab, PW.fInTab, PW.fNInTab, PW.plain, PW.plainL, PW.eqv, PW.eqvL, PW.small, PW.putO, PW.free, PW.isBo_sh, PW.isBo_un, PW.isBo_ow, PW.isBo_rd, PW.wipe, PW.unwipe, PW.isLst, PW.putF, PW.iSeq, PW.iStr, PW.iRng1, PW.iRng2, PW.iRngD, PW.iEnum, PW.iZip, PW.items, PW.bNil, PW.bV, PW.bB, PW.bR, PW.kCall, PW.kMeth, PW.kMake, PW.oV, PW.oR, PW.oB, PW.isObj, PW.isCls, PW.wSh, PW.nFr, PW.wInO, PW.wNInO, PW.call, PW.lent, PW.lentB, PW.lentR, PW.lentOk, PW.back_nil, PW.back_v, PW.back_r, PW.back_b, PW.entry, PW.noX, PW.b2i, PW.nLc, PW.fDget, PW.fDin, PW.fDnin, PW.fDlen, PW.nDit, PW.nDic, PW.sDput, PW.putKv, PW.dKv, PW.fSortSet, PW.wMt, PW.fSIndex, PW.fSFind, PW.isStr, PW.isLst1, PW.nLc2, PW.elt1, PW.elt2, line_eq]
  refine ⟨s, u, hs, hu, by omega, rfl, fun os => ?_⟩
  simp [PW.sSeq, PW.sPass, PW.sBreak, PW.sCont, PW.sNever, PW.sExpr, PW.sSet, PW.sNew, PW.sPut, PW.sApp, PW.sFld, PW.sAsg, PW.sRet, PW.sRetN, PW.sRetF, PW.sRetO, PW.sIf, PW.sFor, PW.gN, PW.gT, PW.gUn, PW.wC, PW.wV, PW.rN, PW.rE, PW.peek, PW.wUn, PW.wBin, PW.wLk, PW.wLk2, PW.wLkR, PW.wLkB, PW.tB, PW.tTr, PW.truth, PW.tAnd, PW.tOr, PW.tNot, PW.tYes, PW.wAnd, PW.wOr, PW.wNot, PW.wIf, PW.wChain, PW.aNil, PW.aCons, PW.wTup, PW.nLst, PW.nCat, PW.nRep, PW.wPart, PW.fSl, PW.wSl, PW.nSl, PW.wSlL, PW.fAdd, PW.fSub, PW.fMul, PW.fFdiv, PW.fMod, PW.fPow, PW.fShl, PW.fShr, PW.fAnd, PW.fOr, PW.fXor, PW.fNeg, PW.fLt, PW.fLe, PW.fGt, PW.fGe, PW.fEq, PW.fNe, PW.fIsNone, PW.fIsntNone, PW.isNon, PW.fIn, PW.fNotIn, PW.fIx, PW.fLen, PW.fInt, PW.fAbs, PW.fMax2, PW.fMin2, PW.fTuple, PW.fList, PW.fMaxL, PW.fMinL, PW.fIs, PW.isTy, PW.fIsO, PW.fFld, PW.fCon, PW.fTab, PW.fInTab, PW.fNInTab, PW.plain, PW.plainL, PW.eqv, PW.eqvL, PW.small, PW.putO, PW.free, PW.isBo_sh, PW.isBo_un, PW.isBo_ow, PW.isBo_rd, PW.wipe, PW.unwipe, PW.isLst, PW.putF, PW.iSeq, PW.iStr, PW.iRng1, PW.iRng2, PW.iRngD, PW.iEnum, PW.iZip, PW.items, PW.bNil, PW.bV, PW.bB, PW.bR, PW.kCall, PW.kMeth, PW.kMake, PW.oV, PW.oR, PW.oB, PW.isObj, PW.isCls, PW.wSh, PW.nFr, PW.wInO, PW.wNInO, PW.call, PW.lent, PW.lentB, PW.lentR, PW.lentOk, PW.back_nil, PW.back_v, PW.back_r, PW.back_b, PW.entry, PW.noX, PW.b2i, PW.nLc, PW.fDget, PW.fDin, PW.fDnin, PW.fDlen, PW.nDit, PW.nDic, PW.sDput, PW.putKv, PW.dKv, PW.fSortSet, PW.wMt, PW.fSIndex, PW.fSFind, PW.isStr, PW.isLst1, PW.nLc2, PW.elt1, PW.elt2, line_eq]
  refine ⟨s, v, hs, hv, by omega, rfl, fun os => ?_⟩
  have hr2 : (r : Int) ≤ 3 := by omega
  simp [PW.sSeq, PW.sPass, PW.sBreak, PW.sCont, PW.sNever, PW.sExpr, PW.sSet, PW.sNew, PW.sPut, PW.sApp, PW.sFld, PW.sAsg, PW.sRet, PW.sRetN, PW.sRetF, PW.sRetO, PW.sIf, PW.sFor, PW.gN, PW.gT, PW.gUn, PW.wC, PW.wV, PW.rN, PW.rE, PW.peek, PW.wUn, PW.wBin, PW.wLk, PW.wLk2, PW.wLkR, PW.wLkB, PW.tB, PW.tTr, PW.truth, PW.tAnd, PW.tOr, PW.tNot, PW.tYes, PW.wAnd, PW.wOr, PW.wNot, PW.wIf, PW.wChain, PW.aNil, PW.aCons, PW.wTup, PW.nLst, PW.nCat, PW.nRep, PW.wPart, PW.fSl, PW.wSl, PW.nSl, PW.wSlL, PW.fAdd, PW.fSub, PW.fMul, PW.fFdiv, PW.fMod, PW.fPow, PW.fShl, PW.fShr, PW.fAnd, PW.fOr, PW.fXor, PW.fNeg, PW.fLt, PW.fLe, PW.fGt, PW.fGe, PW.fEq, PW.fNe, PW.fIsNone, PW.fIsntNone, PW.isNon, PW.fIn, PW.fNotIn, PW.fIx, PW.fLen, PW.fInt, PW.fAbs, PW.fMax2, PW.fMin2, PW.fTuple, PW.fList, PW.fMaxL, PW.fMinL, PW.fIs, PW.isTy, PW.fIsO, PW.fFld, PW.fCon, PW.fTab, PW.fInTab, PW.fNInTab, PW.plain, PW.plainL, PW.eqv, PW.eqvL, PW.small, PW.putO, PW.free, PW.isBo_sh, PW.isBo_un, PW.isBo_ow, PW.isBo_rd, PW.wipe, PW.unwipe, PW.isLst, PW.putF, PW.iSeq, PW.iStr, PW.iRng1, PW.iRng2, PW.iRngD, PW.iEnum, PW.iZip, PW.items, PW.bNil, PW.bV, PW.bB, PW.bR, PW.kCall, PW.kMeth, PW.kMake, PW.oV, PW.oR, PW.oB, PW.isObj, PW.isCls, PW.wSh, PW.nFr, PW.wInO, PW.wNInO, PW.call, PW.lent, PW.lentB, PW.lentR, PW.lentOk, PW.back_nil, PW.back_v, PW.back_r, PW.back_b, PW.entry, PW.noX, PW.b2i, PW.nLc, PW.fDget, PW.fDin, PW.fDnin, PW.fDlen, PW.nDit, PW.nDic, PW.sDput, PW.putKv, PW.dKv, PW.fSortSet, PW.wMt, PW.fSIndex, PW.fSFind, PW.isStr, PW.isLst1, PW.nLc2, PW.elt1, PW.elt2, line_eq, natD, hr2]
  exact h
def φ_Game_wins : FSpec := fun ss q _ => ∃ s u v r, u.length ≤ 50 ∧ v.length ≤ 50 ∧ r ≤ 3 ∧ ss = [.sh (gameD s u v r)] ∧ ∀ b os, (b = true ↔ Al r u v) → q (.sh (.bl b)) os
theorem len_Game_wins : ∀ ss q e, φ_Game_wins ss q e → ss.length = 1 := by rintro ss q e ⟨s, u, v, r, _, _, _, rfl, _⟩; rfl
theorem cost_le {k n : Nat} (hk : k ≤ 3) (hn : n ≤ 50) : cost k n ≤ 200000 := by
  have mono : ∀ k n, n ≤ 50 → cost k n ≤ cost k 50 := fun k => by
    induction k with
    | zero => intro n _; exact Nat.le_refl _
    | succ k ih =>
      intro n hn
      have := ih n hn
      simp only [cost]
      have : (n + 1) * cost k n ≤ (50 + 1) * cost k 50 := Nat.mul_le_mul (by omega) this
      omega
  refine Nat.le_trans (mono k n hn) ?_
  match k, hk with
  | 0, _ => decide
  | 1, _ => decide
  | 2, _ => decide
  | 3, _ => decide
def w_Game_wins : PW.WS :=
 (PW.sSeq (PW.sNew 1 PW.nDit)
 (PW.sSeq (PW.sSet 2 (PW.wBin PW.fSub (PW.wLk (PW.fFld "Game" "rounds") (PW.rN 0)) (PW.wLk PW.fLen (PW.rE (PW.wLk (PW.fFld "Game" "pairs") (PW.rN 0))))))
 (PW.sSeq (PW.sNew 3 (PW.nLc [5] (PW.iSeq (PW.wTup (PW.aCons (PW.wC (.int 0)) (PW.aCons (PW.wC (.int 1)) PW.aNil)))) (PW.gN 5) PW.tYes (PW.wLk PW.fTuple (PW.rE (PW.nLc [4] (PW.iSeq (PW.wLk (PW.fFld "Game" "pairs") (PW.rN 0))) (PW.gN 4) PW.tYes (PW.wLk2 PW.fIx (PW.rN 4) (PW.wV 5)))))))
 (PW.sSeq (PW.sSet 6 (PW.wSh (PW.kCall φ_kind_number [] (PW.bV (PW.wLk2 PW.fIx (PW.rE (PW.wLk (PW.fFld "Game" "words") (PW.rN 0))) (PW.wC (.int 0))) (PW.bV (PW.wLk2 PW.fIx (PW.rN 3) (PW.wC (.int 0))) (PW.bV (PW.wV 2) (PW.bB 1 PW.bNil)))))))
 (PW.sRet (PW.wLkB PW.fEq (PW.rN 6) (PW.rE (PW.wSh (PW.kCall φ_kind_number [] (PW.bV (PW.wLk2 PW.fIx (PW.rE (PW.wLk (PW.fFld "Game" "words") (PW.rN 0))) (PW.wC (.int 1))) (PW.bV (PW.wLk2 PW.fIx (PW.rN 3) (PW.wC (.int 1))) (PW.bV (PW.wV 2) (PW.bB 1 PW.bNil)))))))))))))

theorem hs_Game_wins : Does φ_Game_wins 7 w_Game_wins := by
  rintro ss q e ⟨s, u, v, r, lu, lv, hr, rfl, h⟩
  have c1 := cost_le (n := u.length) hr lu
  have c2 := cost_le (n := v.length) hr lv
  simp [w_Game_wins, gameD, PW.sSeq, PW.sPass, PW.sBreak, PW.sCont, PW.sNever, PW.sExpr, PW.sSet, PW.sNew, PW.sPut, PW.sApp, PW.sFld, PW.sAsg, PW.sRet, PW.sRetN, PW.sRetF, PW.sRetO, PW.sIf, PW.sFor, PW.gN, PW.gT, PW.gUn, PW.wC, PW.wV, PW.rN, PW.rE, PW.peek, PW.wUn, PW.wBin, PW.wLk, PW.wLk2, PW.wLkR, PW.wLkB, PW.tB, PW.tTr, PW.truth, PW.tAnd, PW.tOr, PW.tNot, PW.tYes, PW.wAnd, PW.wOr, PW.wNot, PW.wIf, PW.wChain, PW.aNil, PW.aCons, PW.wTup, PW.nLst, PW.nCat, PW.nRep, PW.wPart, PW.fSl, PW.wSl, PW.nSl, PW.wSlL, PW.fAdd, PW.fSub, PW.fMul, PW.fFdiv, PW.fMod, PW.fPow, PW.fShl, PW.fShr, PW.fAnd, PW.fOr, PW.fXor, PW.fNeg, PW.fLt, PW.fLe, PW.fGt, PW.fGe, PW.fEq, PW.fNe, PW.fIsNone, PW.fIsntNone, PW.isNon, PW.fIn, PW.fNotIn, PW.fIx, PW.fLen, PW.fInt, PW.fAbs, PW.fMax2, PW.fMin2, PW.fTuple, PW.fList, PW.fMaxL, PW.fMinL, PW.fIs, PW.isTy, PW.fIsO, PW.fFld, PW.fCon, PW.fTab, PW.fInTab, PW.fNInTab, PW.plain, PW.plainL, PW.eqv, PW.eqvL, PW.small, PW.putO, PW.free, PW.isBo_sh, PW.isBo_un, PW.isBo_ow, PW.isBo_rd, PW.wipe, PW.unwipe, PW.isLst, PW.putF, PW.iSeq, PW.iStr, PW.iRng1, PW.iRng2, PW.iRngD, PW.iEnum, PW.iZip, PW.items, PW.bNil, PW.bV, PW.bB, PW.bR, PW.kCall, PW.kMeth, PW.kMake, PW.oV, PW.oR, PW.oB, PW.isObj, PW.isCls, PW.wSh, PW.nFr, PW.wInO, PW.wNInO, PW.call, PW.lent, PW.lentB, PW.lentR, PW.lentOk, PW.back_nil, PW.back_v, PW.back_r, PW.back_b, PW.entry, PW.noX, PW.b2i, PW.nLc, PW.fDget, PW.fDin, PW.fDnin, PW.fDlen, PW.nDit, PW.nDic, PW.sDput, PW.putKv, PW.dKv, PW.fSortSet, PW.wMt, PW.fSIndex, PW.fSFind, PW.isStr, PW.isLst1, PW.nLc2, PW.elt1, PW.elt2, line_eq]
  refine lc_map [.tup [], .tup []] rfl (by simp [line_eq]) (fun i d y K h1 h2 h3 => ?_) ?_
  · have hd : ∃ j, d = .int j := by
      rcases i with _ | _ | i
      · exact ⟨0, by simpa using h1.symm⟩
      · exact ⟨1, by simpa using h1.symm⟩
      · simp at h1
    obtain ⟨j, rfl⟩ := hd
    have hy : y = .tup [] := by
      rcases i with _ | _ | i
      · simpa using h2.symm
      · simpa using h2.symm
      · simp at h2
    subst hy
    simp [PW.sSeq, PW.sPass, PW.sBreak, PW.sCont, PW.sNever, PW.sExpr, PW.sSet, PW.sNew, PW.sPut, PW.sApp, PW.sFld, PW.sAsg, PW.sRet, PW.sRetN, PW.sRetF, PW.sRetO, PW.sIf, PW.sFor, PW.gN, PW.gT, PW.gUn, PW.wC, PW.wV, PW.rN, PW.rE, PW.peek, PW.wUn, PW.wBin, PW.wLk, PW.wLk2, PW.wLkR, PW.wLkB, PW.tB, PW.tTr, PW.truth, PW.tAnd, PW.tOr, PW.tNot, PW.tYes, PW.wAnd, PW.wOr, PW.wNot, PW.wIf, PW.wChain, PW.aNil, PW.aCons, PW.wTup, PW.nLst, PW.nCat, PW.nRep, PW.wPart, PW.fSl, PW.wSl, PW.nSl, PW.wSlL, PW.fAdd, PW.fSub, PW.fMul, PW.fFdiv, PW.fMod, PW.fPow, PW.fShl, PW.fShr, PW.fAnd, PW.fOr, PW.fXor, PW.fNeg, PW.fLt, PW.fLe, PW.fGt, PW.fGe, PW.fEq, PW.fNe, PW.fIsNone, PW.fIsntNone, PW.isNon, PW.fIn, PW.fNotIn, PW.fIx, PW.fLen, PW.fInt, PW.fAbs, PW.fMax2, PW.fMin2, PW.fTuple, PW.fList, PW.fMaxL, PW.fMinL, PW.fIs, PW.isTy, PW.fIsO, PW.fFld, PW.fCon, PW.fTab, PW.fInTab, PW.fNInTab, PW.plain, PW.plainL, PW.eqv, PW.eqvL, PW.small, PW.putO, PW.free, PW.isBo_sh, PW.isBo_un, PW.isBo_ow, PW.isBo_rd, PW.wipe, PW.unwipe, PW.isLst, PW.putF, PW.iSeq, PW.iStr, PW.iRng1, PW.iRng2, PW.iRngD, PW.iEnum, PW.iZip, PW.items, PW.bNil, PW.bV, PW.bB, PW.bR, PW.kCall, PW.kMeth, PW.kMake, PW.oV, PW.oR, PW.oB, PW.isObj, PW.isCls, PW.wSh, PW.nFr, PW.wInO, PW.wNInO, PW.call, PW.lent, PW.lentB, PW.lentR, PW.lentOk, PW.back_nil, PW.back_v, PW.back_r, PW.back_b, PW.entry, PW.noX, PW.b2i, PW.nLc, PW.fDget, PW.fDin, PW.fDnin, PW.fDlen, PW.nDit, PW.nDic, PW.sDput, PW.putKv, PW.dKv, PW.fSortSet, PW.wMt, PW.fSIndex, PW.fSFind, PW.isStr, PW.isLst1, PW.nLc2, PW.elt1, PW.elt2, line_eq]
    exact h3 _ rfl
  simp [PW.sSeq, PW.sPass, PW.sBreak, PW.sCont, PW.sNever, PW.sExpr, PW.sSet, PW.sNew, PW.sPut, PW.sApp, PW.sFld, PW.sAsg, PW.sRet, PW.sRetN, PW.sRetF, PW.sRetO, PW.sIf, PW.sFor, PW.gN, PW.gT, PW.gUn, PW.wC, PW.wV, PW.rN, PW.rE, PW.peek, PW.wUn, PW.wBin, PW.wLk, PW.wLk2, PW.wLkR, PW.wLkB, PW.tB, PW.tTr, PW.truth, PW.tAnd, PW.tOr, PW.tNot, PW.tYes, PW.wAnd, PW.wOr, PW.wNot, PW.wIf, PW.wChain, PW.aNil, PW.aCons, PW.wTup, PW.nLst, PW.nCat, PW.nRep, PW.wPart, PW.fSl, PW.wSl, PW.nSl, PW.wSlL, PW.fAdd, PW.fSub, PW.fMul, PW.fFdiv, PW.fMod, PW.fPow, PW.fShl, PW.fShr, PW.fAnd, PW.fOr, PW.fXor, PW.fNeg, PW.fLt, PW.fLe, PW.fGt, PW.fGe, PW.fEq, PW.fNe, PW.fIsNone, PW.fIsntNone, PW.isNon, PW.fIn, PW.fNotIn, PW.fIx, PW.fLen, PW.fInt, PW.fAbs, PW.fMax2, PW.fMin2, PW.fTuple, PW.fList, PW.fMaxL, PW.fMinL, PW.fIs, PW.isTy, PW.fIsO, PW.fFld, PW.fCon, PW.fTab, PW.fInTab, PW.fNInTab, PW.plain, PW.plainL, PW.eqv, PW.eqvL, PW.small, PW.putO, PW.free, PW.isBo_sh, PW.isBo_un, PW.isBo_ow, PW.isBo_rd, PW.wipe, PW.unwipe, PW.isLst, PW.putF, PW.iSeq, PW.iStr, PW.iRng1, PW.iRng2, PW.iRngD, PW.iEnum, PW.iZip, PW.items, PW.bNil, PW.bV, PW.bB, PW.bR, PW.kCall, PW.kMeth, PW.kMake, PW.oV, PW.oR, PW.oB, PW.isObj, PW.isCls, PW.wSh, PW.nFr, PW.wInO, PW.wNInO, PW.call, PW.lent, PW.lentB, PW.lentR, PW.lentOk, PW.back_nil, PW.back_v, PW.back_r, PW.back_b, PW.entry, PW.noX, PW.b2i, PW.nLc, PW.fDget, PW.fDin, PW.fDnin, PW.fDlen, PW.nDit, PW.nDic, PW.sDput, PW.putKv, PW.dKv, PW.fSortSet, PW.wMt, PW.fSIndex, PW.fSFind, PW.isStr, PW.isLst1, PW.nLc2, PW.elt1, PW.elt2, line_eq]
  refine ⟨u, [], r, [], by omega, lu, by simp, by simp; omega, ⟨by simp, by simp⟩, by simp; omega, rfl, fun ks n K hpre hle hR => ?_⟩
  simp [PW.sSeq, PW.sPass, PW.sBreak, PW.sCont, PW.sNever, PW.sExpr, PW.sSet, PW.sNew, PW.sPut, PW.sApp, PW.sFld, PW.sAsg, PW.sRet, PW.sRetN, PW.sRetF, PW.sRetO, PW.sIf, PW.sFor, PW.gN, PW.gT, PW.gUn, PW.wC, PW.wV, PW.rN, PW.rE, PW.peek, PW.wUn, PW.wBin, PW.wLk, PW.wLk2, PW.wLkR, PW.wLkB, PW.tB, PW.tTr, PW.truth, PW.tAnd, PW.tOr, PW.tNot, PW.tYes, PW.wAnd, PW.wOr, PW.wNot, PW.wIf, PW.wChain, PW.aNil, PW.aCons, PW.wTup, PW.nLst, PW.nCat, PW.nRep, PW.wPart, PW.fSl, PW.wSl, PW.nSl, PW.wSlL, PW.fAdd, PW.fSub, PW.fMul, PW.fFdiv, PW.fMod, PW.fPow, PW.fShl, PW.fShr, PW.fAnd, PW.fOr, PW.fXor, PW.fNeg, PW.fLt, PW.fLe, PW.fGt, PW.fGe, PW.fEq, PW.fNe, PW.fIsNone, PW.fIsntNone, PW.isNon, PW.fIn, PW.fNotIn, PW.fIx, PW.fLen, PW.fInt, PW.fAbs, PW.fMax2, PW.fMin2, PW.fTuple, PW.fList, PW.fMaxL, PW.fMinL, PW.fIs, PW.isTy, PW.fIsO, PW.fFld, PW.fCon, PW.fTab, PW.fInTab, PW.fNInTab, PW.plain, PW.plainL, PW.eqv, PW.eqvL, PW.small, PW.putO, PW.free, PW.isBo_sh, PW.isBo_un, PW.isBo_ow, PW.isBo_rd, PW.wipe, PW.unwipe, PW.isLst, PW.putF, PW.iSeq, PW.iStr, PW.iRng1, PW.iRng2, PW.iRngD, PW.iEnum, PW.iZip, PW.items, PW.bNil, PW.bV, PW.bB, PW.bR, PW.kCall, PW.kMeth, PW.kMake, PW.oV, PW.oR, PW.oB, PW.isObj, PW.isCls, PW.wSh, PW.nFr, PW.wInO, PW.wNInO, PW.call, PW.lent, PW.lentB, PW.lentR, PW.lentOk, PW.back_nil, PW.back_v, PW.back_r, PW.back_b, PW.entry, PW.noX, PW.b2i, PW.nLc, PW.fDget, PW.fDin, PW.fDnin, PW.fDlen, PW.nDit, PW.nDic, PW.sDput, PW.putKv, PW.dKv, PW.fSortSet, PW.wMt, PW.fSIndex, PW.fSFind, PW.isStr, PW.isLst1, PW.nLc2, PW.elt1, PW.elt2, line_eq]
  refine ⟨v, [], r, ks, by omega, lv, by simp, by simp; omega, K, by simp at hle; omega, rfl, fun ks2 m K2 hpre2 hle2 hR2 => ?_⟩
  simp [natD, PW.sSeq, PW.sPass, PW.sBreak, PW.sCont, PW.sNever, PW.sExpr, PW.sSet, PW.sNew, PW.sPut, PW.sApp, PW.sFld, PW.sAsg, PW.sRet, PW.sRetN, PW.sRetF, PW.sRetO, PW.sIf, PW.sFor, PW.gN, PW.gT, PW.gUn, PW.wC, PW.wV, PW.rN, PW.rE, PW.peek, PW.wUn, PW.wBin, PW.wLk, PW.wLk2, PW.wLkR, PW.wLkB, PW.tB, PW.tTr, PW.truth, PW.tAnd, PW.tOr, PW.tNot, PW.tYes, PW.wAnd, PW.wOr, PW.wNot, PW.wIf, PW.wChain, PW.aNil, PW.aCons, PW.wTup, PW.nLst, PW.nCat, PW.nRep, PW.wPart, PW.fSl, PW.wSl, PW.nSl, PW.wSlL, PW.fAdd, PW.fSub, PW.fMul, PW.fFdiv, PW.fMod, PW.fPow, PW.fShl, PW.fShr, PW.fAnd, PW.fOr, PW.fXor, PW.fNeg, PW.fLt, PW.fLe, PW.fGt, PW.fGe, PW.fEq, PW.fNe, PW.fIsNone, PW.fIsntNone, PW.isNon, PW.fIn, PW.fNotIn, PW.fIx, PW.fLen, PW.fInt, PW.fAbs, PW.fMax2, PW.fMin2, PW.fTuple, PW.fList, PW.fMaxL, PW.fMinL, PW.fIs, PW.isTy, PW.fIsO, PW.fFld, PW.fCon, PW.fTab, PW.fInTab, PW.fNInTab, PW.plain, PW.plainL, PW.eqv, PW.eqvL, PW.small, PW.putO, PW.free, PW.isBo_sh, PW.isBo_un, PW.isBo_ow, PW.isBo_rd, PW.wipe, PW.unwipe, PW.isLst, PW.putF, PW.iSeq, PW.iStr, PW.iRng1, PW.iRng2, PW.iRngD, PW.iEnum, PW.iZip, PW.items, PW.bNil, PW.bV, PW.bB, PW.bR, PW.kCall, PW.kMeth, PW.kMake, PW.oV, PW.oR, PW.oB, PW.isObj, PW.isCls, PW.wSh, PW.nFr, PW.wInO, PW.wNInO, PW.call, PW.lent, PW.lentB, PW.lentR, PW.lentOk, PW.back_nil, PW.back_v, PW.back_r, PW.back_b, PW.entry, PW.noX, PW.b2i, PW.nLc, PW.fDget, PW.fDin, PW.fDnin, PW.fDlen, PW.nDit, PW.nDic, PW.sDput, PW.putKv, PW.dKv, PW.fSortSet, PW.wMt, PW.fSIndex, PW.fSFind, PW.isStr, PW.isLst1, PW.nLc2, PW.elt1, PW.elt2, line_eq]
  refine h _ _ ?_
  have := R_iff K2 (hR.mono hpre2) hR2 rfl (by simp) (by simp)
  simp only [List.zip_nil_left] at this
  show _ ↔ E r u v []
  rw [← this]; simp; omega
def φ_alike : FSpec := fun ss q _ => ∃ s u v r, Lets s ∧ Over s u ∧ Over s v ∧ u.length ≤ 50 ∧ v.length ≤ 50 ∧ r ≤ 3 ∧ ss = [.sh (.str s), .sh (.str u), .sh (.str v), .sh (natD r)] ∧ ∀ b os, (b = true ↔ Al r u v) → q (.sh (.bl b)) os
theorem len_alike : ∀ ss q e, φ_alike ss q e → ss.length = 4 := by rintro ss q e ⟨s, u, v, r, _, _, _, _, _, _, rfl, _⟩; rfl
def w_alike : PW.WS :=
 (PW.sRet (PW.wSh (PW.kMeth "Game" "wins" (PW.oV (PW.nFr (PW.kMake "Game" φ_Game___init__ [] (PW.bV (PW.wV 0) (PW.bV (PW.wV 1) (PW.bV (PW.wV 2) (PW.bV (PW.wV 3) PW.bNil))))))) φ_Game_wins [] PW.bNil)))

theorem hs_alike : Does φ_alike 4 w_alike := by
  rintro ss q e ⟨s, u, v, r, hs, hu, hv, lu, lv, hr, rfl, h⟩
  simp [w_alike, PW.sSeq, PW.sPass, PW.sBreak, PW.sCont, PW.sNever, PW.sExpr, PW.sSet, PW.sNew, PW.sPut, PW.sApp, PW.sFld, PW.sAsg, PW.sRet, PW.sRetN, PW.sRetF, PW.sRetO, PW.sIf, PW.sFor, PW.gN, PW.gT, PW.gUn, PW.wC, PW.wV, PW.rN, PW.rE, PW.peek, PW.wUn, PW.wBin, PW.wLk, PW.wLk2, PW.wLkR, PW.wLkB, PW.tB, PW.tTr, PW.truth, PW.tAnd, PW.tOr, PW.tNot, PW.tYes, PW.wAnd, PW.wOr, PW.wNot, PW.wIf, PW.wChain, PW.aNil, PW.aCons, PW.wTup, PW.nLst, PW.nCat, PW.nRep, PW.wPart, PW.fSl, PW.wSl, PW.nSl, PW.wSlL, PW.fAdd, PW.fSub, PW.fMul, PW.fFdiv, PW.fMod, PW.fPow, PW.fShl, PW.fShr, PW.fAnd, PW.fOr, PW.fXor, PW.fNeg, PW.fLt, PW.fLe, PW.fGt, PW.fGe, PW.fEq, PW.fNe, PW.fIsNone, PW.fIsntNone, PW.isNon, PW.fIn, PW.fNotIn, PW.fIx, PW.fLen, PW.fInt, PW.fAbs, PW.fMax2, PW.fMin2, PW.fTuple, PW.fList, PW.fMaxL, PW.fMinL, PW.fIs, PW.isTy, PW.fIsO, PW.fFld, PW.fCon, PW.fTab, PW.fInTab, PW.fNInTab, PW.plain, PW.plainL, PW.eqv, PW.eqvL, PW.small, PW.putO, PW.free, PW.isBo_sh, PW.isBo_un, PW.isBo_ow, PW.isBo_rd, PW.wipe, PW.unwipe, PW.isLst, PW.putF, PW.iSeq, PW.iStr, PW.iRng1, PW.iRng2, PW.iRngD, PW.iEnum, PW.iZip, PW.items, PW.bNil, PW.bV, PW.bB, PW.bR, PW.kCall, PW.kMeth, PW.kMake, PW.oV, PW.oR, PW.oB, PW.isObj, PW.isCls, PW.wSh, PW.nFr, PW.wInO, PW.wNInO, PW.call, PW.lent, PW.lentB, PW.lentR, PW.lentOk, PW.back_nil, PW.back_v, PW.back_r, PW.back_b, PW.entry, PW.noX, PW.b2i, PW.nLc, PW.fDget, PW.fDin, PW.fDnin, PW.fDlen, PW.nDit, PW.nDic, PW.sDput, PW.putKv, PW.dKv, PW.fSortSet, PW.wMt, PW.fSIndex, PW.fSFind, PW.isStr, PW.isLst1, PW.nLc2, PW.elt1, PW.elt2, line_eq]
  refine ⟨s, u, v, r, hs, hu, hv, lu, lv, hr, rfl, ?_⟩
  simp [PW.sSeq, PW.sPass, PW.sBreak, PW.sCont, PW.sNever, PW.sExpr, PW.sSet, PW.sNew, PW.sPut, PW.sApp, PW.sFld, PW.sAsg, PW.sRet, PW.sRetN, PW.sRetF, PW.sRetO, PW.sIf, PW.sFor, PW.gN, PW.gT, PW.gUn, PW.wC, PW.wV, PW.rN, PW.rE, PW.peek, PW.wUn, PW.wBin, PW.wLk, PW.wLk2, PW.wLkR, PW.wLkB, PW.tB, PW.tTr, PW.truth, PW.tAnd, PW.tOr, PW.tNot, PW.tYes, PW.wAnd, PW.wOr, PW.wNot, PW.wIf, PW.wChain, PW.aNil, PW.aCons, PW.wTup, PW.nLst, PW.nCat, PW.nRep, PW.wPart, PW.fSl, PW.wSl, PW.nSl, PW.wSlL, PW.fAdd, PW.fSub, PW.fMul, PW.fFdiv, PW.fMod, PW.fPow, PW.fShl, PW.fShr, PW.fAnd, PW.fOr, PW.fXor, PW.fNeg, PW.fLt, PW.fLe, PW.fGt, PW.fGe, PW.fEq, PW.fNe, PW.fIsNone, PW.fIsntNone, PW.isNon, PW.fIn, PW.fNotIn, PW.fIx, PW.fLen, PW.fInt, PW.fAbs, PW.fMax2, PW.fMin2, PW.fTuple, PW.fList, PW.fMaxL, PW.fMinL, PW.fIs, PW.isTy, PW.fIsO, PW.fFld, PW.fCon, PW.fTab, PW.fInTab, PW.fNInTab, PW.plain, PW.plainL, PW.eqv, PW.eqvL, PW.small, PW.putO, PW.free, PW.isBo_sh, PW.isBo_un, PW.isBo_ow, PW.isBo_rd, PW.wipe, PW.unwipe, PW.isLst, PW.putF, PW.iSeq, PW.iStr, PW.iRng1, PW.iRng2, PW.iRngD, PW.iEnum, PW.iZip, PW.items, PW.bNil, PW.bV, PW.bB, PW.bR, PW.kCall, PW.kMeth, PW.kMake, PW.oV, PW.oR, PW.oB, PW.isObj, PW.isCls, PW.wSh, PW.nFr, PW.wInO, PW.wNInO, PW.call, PW.lent, PW.lentB, PW.lentR, PW.lentOk, PW.back_nil, PW.back_v, PW.back_r, PW.back_b, PW.entry, PW.noX, PW.b2i, PW.nLc, PW.fDget, PW.fDin, PW.fDnin, PW.fDlen, PW.nDit, PW.nDic, PW.sDput, PW.putKv, PW.dKv, PW.fSortSet, PW.wMt, PW.fSIndex, PW.fSFind, PW.isStr, PW.isLst1, PW.nLc2, PW.elt1, PW.elt2, line_eq]
  unfold gameD
  simp [PW.sSeq, PW.sPass, PW.sBreak, PW.sCont, PW.sNever, PW.sExpr, PW.sSet, PW.sNew, PW.sPut, PW.sApp, PW.sFld, PW.sAsg, PW.sRet, PW.sRetN, PW.sRetF, PW.sRetO, PW.sIf, PW.sFor, PW.gN, PW.gT, PW.gUn, PW.wC, PW.wV, PW.rN, PW.rE, PW.peek, PW.wUn, PW.wBin, PW.wLk, PW.wLk2, PW.wLkR, PW.wLkB, PW.tB, PW.tTr, PW.truth, PW.tAnd, PW.tOr, PW.tNot, PW.tYes, PW.wAnd, PW.wOr, PW.wNot, PW.wIf, PW.wChain, PW.aNil, PW.aCons, PW.wTup, PW.nLst, PW.nCat, PW.nRep, PW.wPart, PW.fSl, PW.wSl, PW.nSl, PW.wSlL, PW.fAdd, PW.fSub, PW.fMul, PW.fFdiv, PW.fMod, PW.fPow, PW.fShl, PW.fShr, PW.fAnd, PW.fOr, PW.fXor, PW.fNeg, PW.fLt, PW.fLe, PW.fGt, PW.fGe, PW.fEq, PW.fNe, PW.fIsNone, PW.fIsntNone, PW.isNon, PW.fIn, PW.fNotIn, PW.fIx, PW.fLen, PW.fInt, PW.fAbs, PW.fMax2, PW.fMin2, PW.fTuple, PW.fList, PW.fMaxL, PW.fMinL, PW.fIs, PW.isTy, PW.fIsO, PW.fFld, PW.fCon, PW.fTab, PW.fInTab, PW.fNInTab, PW.plain, PW.plainL, PW.eqv, PW.eqvL, PW.small, PW.putO, PW.free, PW.isBo_sh, PW.isBo_un, PW.isBo_ow, PW.isBo_rd, PW.wipe, PW.unwipe, PW.isLst, PW.putF, PW.iSeq, PW.iStr, PW.iRng1, PW.iRng2, PW.iRngD, PW.iEnum, PW.iZip, PW.items, PW.bNil, PW.bV, PW.bB, PW.bR, PW.kCall, PW.kMeth, PW.kMake, PW.oV, PW.oR, PW.oB, PW.isObj, PW.isCls, PW.wSh, PW.nFr, PW.wInO, PW.wNInO, PW.call, PW.lent, PW.lentB, PW.lentR, PW.lentOk, PW.back_nil, PW.back_v, PW.back_r, PW.back_b, PW.entry, PW.noX, PW.b2i, PW.nLc, PW.fDget, PW.fDin, PW.fDnin, PW.fDlen, PW.nDit, PW.nDic, PW.sDput, PW.putKv, PW.dKv, PW.fSortSet, PW.wMt, PW.fSIndex, PW.fSFind, PW.isStr, PW.isLst1, PW.nLc2, PW.elt1, PW.elt2, line_eq]
  refine ⟨by rintro a b (⟨rfl, _⟩ | ⟨rfl, _⟩ | ⟨rfl, _⟩ | ⟨rfl, _⟩) <;> decide, s, u, v, r, lu, lv, hr, rfl, fun b os hb => ?_⟩
  simp [PW.sSeq, PW.sPass, PW.sBreak, PW.sCont, PW.sNever, PW.sExpr, PW.sSet, PW.sNew, PW.sPut, PW.sApp, PW.sFld, PW.sAsg, PW.sRet, PW.sRetN, PW.sRetF, PW.sRetO, PW.sIf, PW.sFor, PW.gN, PW.gT, PW.gUn, PW.wC, PW.wV, PW.rN, PW.rE, PW.peek, PW.wUn, PW.wBin, PW.wLk, PW.wLk2, PW.wLkR, PW.wLkB, PW.tB, PW.tTr, PW.truth, PW.tAnd, PW.tOr, PW.tNot, PW.tYes, PW.wAnd, PW.wOr, PW.wNot, PW.wIf, PW.wChain, PW.aNil, PW.aCons, PW.wTup, PW.nLst, PW.nCat, PW.nRep, PW.wPart, PW.fSl, PW.wSl, PW.nSl, PW.wSlL, PW.fAdd, PW.fSub, PW.fMul, PW.fFdiv, PW.fMod, PW.fPow, PW.fShl, PW.fShr, PW.fAnd, PW.fOr, PW.fXor, PW.fNeg, PW.fLt, PW.fLe, PW.fGt, PW.fGe, PW.fEq, PW.fNe, PW.fIsNone, PW.fIsntNone, PW.isNon, PW.fIn, PW.fNotIn, PW.fIx, PW.fLen, PW.fInt, PW.fAbs, PW.fMax2, PW.fMin2, PW.fTuple, PW.fList, PW.fMaxL, PW.fMinL, PW.fIs, PW.isTy, PW.fIsO, PW.fFld, PW.fCon, PW.fTab, PW.fInTab, PW.fNInTab, PW.plain, PW.plainL, PW.eqv, PW.eqvL, PW.small, PW.putO, PW.free, PW.isBo_sh, PW.isBo_un, PW.isBo_ow, PW.isBo_rd, PW.wipe, PW.unwipe, PW.isLst, PW.putF, PW.iSeq, PW.iStr, PW.iRng1, PW.iRng2, PW.iRngD, PW.iEnum, PW.iZip, PW.items, PW.bNil, PW.bV, PW.bB, PW.bR, PW.kCall, PW.kMeth, PW.kMake, PW.oV, PW.oR, PW.oB, PW.isObj, PW.isCls, PW.wSh, PW.nFr, PW.wInO, PW.wNInO, PW.call, PW.lent, PW.lentB, PW.lentR, PW.lentOk, PW.back_nil, PW.back_v, PW.back_r, PW.back_b, PW.entry, PW.noX, PW.b2i, PW.nLc, PW.fDget, PW.fDin, PW.fDnin, PW.fDlen, PW.nDit, PW.nDic, PW.sDput, PW.putKv, PW.dKv, PW.fSortSet, PW.wMt, PW.fSIndex, PW.fSFind, PW.isStr, PW.isLst1, PW.nLc2, PW.elt1, PW.elt2]
  exact h b _ hb
end PW
end

section
set_option linter.all false
set_option maxHeartbeats 4000000
set_option maxRecDepth 100000
/-! G7: letters drawn, words turned, letters exchanged. -/
namespace PW
open GM
def φ__law_letters : FSpec := fun ss q _ => ∃ d most, IsSt d ∧ 1 ≤ most ∧ most ≤ 3 ∧ ss = [.bo d, .sh (.int most)] ∧ ∀ d' s, IsSt d' → Lets s → (s.length : Int) ≤ most → (∀ c ∈ s, c ≤ 120) → q (.sh (.str s)) [.bo d', .sh (.int most)]
theorem len__law_letters : ∀ ss q e, φ__law_letters ss q e → ss.length = 2 := by rintro ss q e ⟨d, most, _, _, _, rfl, _⟩; rfl
def w__law_letters : PW.WS :=
 (PW.sSeq (PW.sSet 2 (PW.wC (.str [97, 98, 99, 100, 101, 102, 103, 104, 105, 106, 107, 108, 109, 110, 111, 112, 113, 114, 115, 116, 117, 118, 119, 120, 121, 122])))
 (PW.sSeq (PW.sSet 3 (PW.wBin PW.fAdd (PW.wC (.int 1)) (PW.wSh (PW.kCall φ__law_draw [] (PW.bB 0 (PW.bV (PW.wV 1) PW.bNil))))))
 (PW.sSeq (PW.sSet 4 (PW.wSh (PW.kCall φ__law_draw [] (PW.bB 0 (PW.bV (PW.wC (.int 8)) PW.bNil)))))
 (PW.sSeq (PW.sSet 5 (PW.wLk2 PW.fIx (PW.rN 2) (PW.wV 4)))
 (PW.sSeq (PW.sFor (PW.iRng1 (PW.wBin PW.fSub (PW.wV 3) (PW.wC (.int 1)))) (PW.gN 6)
 (PW.sSeq (PW.sSet 4 (PW.wBin PW.fAdd (PW.wBin PW.fAdd (PW.wV 4) (PW.wC (.int 1))) (PW.wSh (PW.kCall φ__law_draw [] (PW.bB 0 (PW.bV (PW.wC (.int 8)) PW.bNil))))))
 (PW.sSet 5 (PW.wBin PW.fAdd (PW.wV 5) (PW.wLk2 PW.fIx (PW.rN 2) (PW.wV 4))))))
 (PW.sRet (PW.wV 5)))))))

theorem hs__law_letters : Does φ__law_letters 7 w__law_letters := by
  rintro ss q e ⟨d, most, hd, hm1, hm3, rfl, h⟩
  simp [w__law_letters, PW.sSeq, PW.sPass, PW.sBreak, PW.sCont, PW.sNever, PW.sExpr, PW.sSet, PW.sNew, PW.sPut, PW.sApp, PW.sFld, PW.sAsg, PW.sRet, PW.sRetN, PW.sRetF, PW.sRetO, PW.sIf, PW.sFor, PW.gN, PW.gT, PW.gUn, PW.wC, PW.wV, PW.rN, PW.rE, PW.peek, PW.wUn, PW.wBin, PW.wLk, PW.wLk2, PW.wLkR, PW.wLkB, PW.tB, PW.tTr, PW.truth, PW.tAnd, PW.tOr, PW.tNot, PW.tYes, PW.wAnd, PW.wOr, PW.wNot, PW.wIf, PW.wChain, PW.aNil, PW.aCons, PW.wTup, PW.nLst, PW.nCat, PW.nRep, PW.wPart, PW.fSl, PW.wSl, PW.nSl, PW.wSlL, PW.fAdd, PW.fSub, PW.fMul, PW.fFdiv, PW.fMod, PW.fPow, PW.fShl, PW.fShr, PW.fAnd, PW.fOr, PW.fXor, PW.fNeg, PW.fLt, PW.fLe, PW.fGt, PW.fGe, PW.fEq, PW.fNe, PW.fIsNone, PW.fIsntNone, PW.isNon, PW.fIn, PW.fNotIn, PW.fIx, PW.fLen, PW.fInt, PW.fAbs, PW.fMax2, PW.fMin2, PW.fTuple, PW.fList, PW.fMaxL, PW.fMinL, PW.fIs, PW.isTy, PW.fIsO, PW.fFld, PW.fCon, PW.fTab, PW.fInTab, PW.fNInTab, PW.plain, PW.plainL, PW.eqv, PW.eqvL, PW.small, PW.putO, PW.free, PW.isBo_sh, PW.isBo_un, PW.isBo_ow, PW.isBo_rd, PW.wipe, PW.unwipe, PW.isLst, PW.putF, PW.iSeq, PW.iStr, PW.iRng1, PW.iRng2, PW.iRngD, PW.iEnum, PW.iZip, PW.items, PW.bNil, PW.bV, PW.bB, PW.bR, PW.kCall, PW.kMeth, PW.kMake, PW.oV, PW.oR, PW.oB, PW.isObj, PW.isCls, PW.wSh, PW.nFr, PW.wInO, PW.wNInO, PW.call, PW.lent, PW.lentB, PW.lentR, PW.lentOk, PW.back_nil, PW.back_v, PW.back_r, PW.back_b, PW.entry, PW.noX, PW.b2i, PW.nLc, PW.fDget, PW.fDin, PW.fDnin, PW.fDlen, PW.nDit, PW.nDic, PW.sDput, PW.putKv, PW.dKv, PW.fSortSet, PW.wMt, PW.fSIndex, PW.fSFind, PW.isStr, PW.isLst1, PW.nLc2, PW.elt1, PW.elt2, line_eq]
  refine ⟨d, most, hd, by omega, by omega, rfl, fun d1 r1 hd1 h0 h1 => ?_⟩
  simp [PW.sSeq, PW.sPass, PW.sBreak, PW.sCont, PW.sNever, PW.sExpr, PW.sSet, PW.sNew, PW.sPut, PW.sApp, PW.sFld, PW.sAsg, PW.sRet, PW.sRetN, PW.sRetF, PW.sRetO, PW.sIf, PW.sFor, PW.gN, PW.gT, PW.gUn, PW.wC, PW.wV, PW.rN, PW.rE, PW.peek, PW.wUn, PW.wBin, PW.wLk, PW.wLk2, PW.wLkR, PW.wLkB, PW.tB, PW.tTr, PW.truth, PW.tAnd, PW.tOr, PW.tNot, PW.tYes, PW.wAnd, PW.wOr, PW.wNot, PW.wIf, PW.wChain, PW.aNil, PW.aCons, PW.wTup, PW.nLst, PW.nCat, PW.nRep, PW.wPart, PW.fSl, PW.wSl, PW.nSl, PW.wSlL, PW.fAdd, PW.fSub, PW.fMul, PW.fFdiv, PW.fMod, PW.fPow, PW.fShl, PW.fShr, PW.fAnd, PW.fOr, PW.fXor, PW.fNeg, PW.fLt, PW.fLe, PW.fGt, PW.fGe, PW.fEq, PW.fNe, PW.fIsNone, PW.fIsntNone, PW.isNon, PW.fIn, PW.fNotIn, PW.fIx, PW.fLen, PW.fInt, PW.fAbs, PW.fMax2, PW.fMin2, PW.fTuple, PW.fList, PW.fMaxL, PW.fMinL, PW.fIs, PW.isTy, PW.fIsO, PW.fFld, PW.fCon, PW.fTab, PW.fInTab, PW.fNInTab, PW.plain, PW.plainL, PW.eqv, PW.eqvL, PW.small, PW.putO, PW.free, PW.isBo_sh, PW.isBo_un, PW.isBo_ow, PW.isBo_rd, PW.wipe, PW.unwipe, PW.isLst, PW.putF, PW.iSeq, PW.iStr, PW.iRng1, PW.iRng2, PW.iRngD, PW.iEnum, PW.iZip, PW.items, PW.bNil, PW.bV, PW.bB, PW.bR, PW.kCall, PW.kMeth, PW.kMake, PW.oV, PW.oR, PW.oB, PW.isObj, PW.isCls, PW.wSh, PW.nFr, PW.wInO, PW.wNInO, PW.call, PW.lent, PW.lentB, PW.lentR, PW.lentOk, PW.back_nil, PW.back_v, PW.back_r, PW.back_b, PW.entry, PW.noX, PW.b2i, PW.nLc, PW.fDget, PW.fDin, PW.fDnin, PW.fDlen, PW.nDit, PW.nDic, PW.sDput, PW.putKv, PW.dKv, PW.fSortSet, PW.wMt, PW.fSIndex, PW.fSFind, PW.isStr, PW.isLst1, PW.nLc2, PW.elt1, PW.elt2, line_eq]
  refine ⟨d1, 8, hd1, by omega, by omega, rfl, fun d2 r2 hd2 h2 h3 => ?_⟩
  simp [PW.sSeq, PW.sPass, PW.sBreak, PW.sCont, PW.sNever, PW.sExpr, PW.sSet, PW.sNew, PW.sPut, PW.sApp, PW.sFld, PW.sAsg, PW.sRet, PW.sRetN, PW.sRetF, PW.sRetO, PW.sIf, PW.sFor, PW.gN, PW.gT, PW.gUn, PW.wC, PW.wV, PW.rN, PW.rE, PW.peek, PW.wUn, PW.wBin, PW.wLk, PW.wLk2, PW.wLkR, PW.wLkB, PW.tB, PW.tTr, PW.truth, PW.tAnd, PW.tOr, PW.tNot, PW.tYes, PW.wAnd, PW.wOr, PW.wNot, PW.wIf, PW.wChain, PW.aNil, PW.aCons, PW.wTup, PW.nLst, PW.nCat, PW.nRep, PW.wPart, PW.fSl, PW.wSl, PW.nSl, PW.wSlL, PW.fAdd, PW.fSub, PW.fMul, PW.fFdiv, PW.fMod, PW.fPow, PW.fShl, PW.fShr, PW.fAnd, PW.fOr, PW.fXor, PW.fNeg, PW.fLt, PW.fLe, PW.fGt, PW.fGe, PW.fEq, PW.fNe, PW.fIsNone, PW.fIsntNone, PW.isNon, PW.fIn, PW.fNotIn, PW.fIx, PW.fLen, PW.fInt, PW.fAbs, PW.fMax2, PW.fMin2, PW.fTuple, PW.fList, PW.fMaxL, PW.fMinL, PW.fIs, PW.isTy, PW.fIsO, PW.fFld, PW.fCon, PW.fTab, PW.fInTab, PW.fNInTab, PW.plain, PW.plainL, PW.eqv, PW.eqvL, PW.small, PW.putO, PW.free, PW.isBo_sh, PW.isBo_un, PW.isBo_ow, PW.isBo_rd, PW.wipe, PW.unwipe, PW.isLst, PW.putF, PW.iSeq, PW.iStr, PW.iRng1, PW.iRng2, PW.iRngD, PW.iEnum, PW.iZip, PW.items, PW.bNil, PW.bV, PW.bB, PW.bR, PW.kCall, PW.kMeth, PW.kMake, PW.oV, PW.oR, PW.oB, PW.isObj, PW.isCls, PW.wSh, PW.nFr, PW.wInO, PW.wNInO, PW.call, PW.lent, PW.lentB, PW.lentR, PW.lentOk, PW.back_nil, PW.back_v, PW.back_r, PW.back_b, PW.entry, PW.noX, PW.b2i, PW.nLc, PW.fDget, PW.fDin, PW.fDnin, PW.fDlen, PW.nDit, PW.nDic, PW.sDput, PW.putKv, PW.dKv, PW.fSortSet, PW.wMt, PW.fSIndex, PW.fSFind, PW.isStr, PW.isLst1, PW.nLc2, PW.elt1, PW.elt2, line_eq]
  rw [small_at h2 (by omega)]
  have e1 : (1 + r1 - 1 : Int) = r1 := by omega
  simp [PW.sSeq, PW.sPass, PW.sBreak, PW.sCont, PW.sNever, PW.sExpr, PW.sSet, PW.sNew, PW.sPut, PW.sApp, PW.sFld, PW.sAsg, PW.sRet, PW.sRetN, PW.sRetF, PW.sRetO, PW.sIf, PW.sFor, PW.gN, PW.gT, PW.gUn, PW.wC, PW.wV, PW.rN, PW.rE, PW.peek, PW.wUn, PW.wBin, PW.wLk, PW.wLk2, PW.wLkR, PW.wLkB, PW.tB, PW.tTr, PW.truth, PW.tAnd, PW.tOr, PW.tNot, PW.tYes, PW.wAnd, PW.wOr, PW.wNot, PW.wIf, PW.wChain, PW.aNil, PW.aCons, PW.wTup, PW.nLst, PW.nCat, PW.nRep, PW.wPart, PW.fSl, PW.wSl, PW.nSl, PW.wSlL, PW.fAdd, PW.fSub, PW.fMul, PW.fFdiv, PW.fMod, PW.fPow, PW.fShl, PW.fShr, PW.fAnd, PW.fOr, PW.fXor, PW.fNeg, PW.fLt, PW.fLe, PW.fGt, PW.fGe, PW.fEq, PW.fNe, PW.fIsNone, PW.fIsntNone, PW.isNon, PW.fIn, PW.fNotIn, PW.fIx, PW.fLen, PW.fInt, PW.fAbs, PW.fMax2, PW.fMin2, PW.fTuple, PW.fList, PW.fMaxL, PW.fMinL, PW.fIs, PW.isTy, PW.fIsO, PW.fFld, PW.fCon, PW.fTab, PW.fInTab, PW.fNInTab, PW.plain, PW.plainL, PW.eqv, PW.eqvL, PW.small, PW.putO, PW.free, PW.isBo_sh, PW.isBo_un, PW.isBo_ow, PW.isBo_rd, PW.wipe, PW.unwipe, PW.isLst, PW.putF, PW.iSeq, PW.iStr, PW.iRng1, PW.iRng2, PW.iRngD, PW.iEnum, PW.iZip, PW.items, PW.bNil, PW.bV, PW.bB, PW.bR, PW.kCall, PW.kMeth, PW.kMake, PW.oV, PW.oR, PW.oB, PW.isObj, PW.isCls, PW.wSh, PW.nFr, PW.wInO, PW.wNInO, PW.call, PW.lent, PW.lentB, PW.lentR, PW.lentOk, PW.back_nil, PW.back_v, PW.back_r, PW.back_b, PW.entry, PW.noX, PW.b2i, PW.nLc, PW.fDget, PW.fDin, PW.fDnin, PW.fDlen, PW.nDit, PW.nDic, PW.sDput, PW.putKv, PW.dKv, PW.fSortSet, PW.wMt, PW.fSIndex, PW.fSFind, PW.isStr, PW.isLst1, PW.nLc2, PW.elt1, PW.elt2, line_eq, e1]
  refine ⟨by unfold rngB; omega, ?_⟩
  refine loop_ix _ (fun i ρ => ∃ (d : D) (at_ : Int) (s : List Nat) (kk : Sl), IsSt d ∧ 0 ≤ at_ ∧ at_ ≤ 7 + 8 * i ∧ s.length = i + 1 ∧ (∀ c ∈ s, 97 ≤ c ∧ c ≤ 97 + at_.toNat) ∧ s.Pairwise (· < ·) ∧ isBo kk = false ∧ ρ = [.bo d, .sh (.int most), .sh (.str [97, 98, 99, 100, 101, 102, 103, 104, 105, 106, 107, 108, 109, 110, 111, 112, 113, 114, 115, 116, 117, 118, 119, 120, 121, 122]), .sh (.int (1 + r1)), .sh (.int at_), .sh (.str s), kk])
    ⟨d2, r2, [97 + r2.toNat], .un, hd2, h2, by omega, rfl, by simp, by simp, rfl, rfl⟩ ?_ ?_
  · rintro i x ρ K hx ⟨d, at_, s, kk, hd, ha0, ha1, hs1, hs3, hs4, hk, rfl⟩ hK
    obtain ⟨hi, rfl⟩ := rng_some hx
    simp [PW.sSeq, PW.sPass, PW.sBreak, PW.sCont, PW.sNever, PW.sExpr, PW.sSet, PW.sNew, PW.sPut, PW.sApp, PW.sFld, PW.sAsg, PW.sRet, PW.sRetN, PW.sRetF, PW.sRetO, PW.sIf, PW.sFor, PW.gN, PW.gT, PW.gUn, PW.wC, PW.wV, PW.rN, PW.rE, PW.peek, PW.wUn, PW.wBin, PW.wLk, PW.wLk2, PW.wLkR, PW.wLkB, PW.tB, PW.tTr, PW.truth, PW.tAnd, PW.tOr, PW.tNot, PW.tYes, PW.wAnd, PW.wOr, PW.wNot, PW.wIf, PW.wChain, PW.aNil, PW.aCons, PW.wTup, PW.nLst, PW.nCat, PW.nRep, PW.wPart, PW.fSl, PW.wSl, PW.nSl, PW.wSlL, PW.fAdd, PW.fSub, PW.fMul, PW.fFdiv, PW.fMod, PW.fPow, PW.fShl, PW.fShr, PW.fAnd, PW.fOr, PW.fXor, PW.fNeg, PW.fLt, PW.fLe, PW.fGt, PW.fGe, PW.fEq, PW.fNe, PW.fIsNone, PW.fIsntNone, PW.isNon, PW.fIn, PW.fNotIn, PW.fIx, PW.fLen, PW.fInt, PW.fAbs, PW.fMax2, PW.fMin2, PW.fTuple, PW.fList, PW.fMaxL, PW.fMinL, PW.fIs, PW.isTy, PW.fIsO, PW.fFld, PW.fCon, PW.fTab, PW.fInTab, PW.fNInTab, PW.plain, PW.plainL, PW.eqv, PW.eqvL, PW.small, PW.putO, PW.free, PW.isBo_sh, PW.isBo_un, PW.isBo_ow, PW.isBo_rd, PW.wipe, PW.unwipe, PW.isLst, PW.putF, PW.iSeq, PW.iStr, PW.iRng1, PW.iRng2, PW.iRngD, PW.iEnum, PW.iZip, PW.items, PW.bNil, PW.bV, PW.bB, PW.bR, PW.kCall, PW.kMeth, PW.kMake, PW.oV, PW.oR, PW.oB, PW.isObj, PW.isCls, PW.wSh, PW.nFr, PW.wInO, PW.wNInO, PW.call, PW.lent, PW.lentB, PW.lentR, PW.lentOk, PW.back_nil, PW.back_v, PW.back_r, PW.back_b, PW.entry, PW.noX, PW.b2i, PW.nLc, PW.fDget, PW.fDin, PW.fDnin, PW.fDlen, PW.nDit, PW.nDic, PW.sDput, PW.putKv, PW.dKv, PW.fSortSet, PW.wMt, PW.fSIndex, PW.fSFind, PW.isStr, PW.isLst1, PW.nLc2, PW.elt1, PW.elt2, line_eq, hk]
    refine ⟨d, 8, hd, by omega, by omega, rfl, fun d3 r3 hd3 h4 h5 => ?_⟩
    simp [PW.sSeq, PW.sPass, PW.sBreak, PW.sCont, PW.sNever, PW.sExpr, PW.sSet, PW.sNew, PW.sPut, PW.sApp, PW.sFld, PW.sAsg, PW.sRet, PW.sRetN, PW.sRetF, PW.sRetO, PW.sIf, PW.sFor, PW.gN, PW.gT, PW.gUn, PW.wC, PW.wV, PW.rN, PW.rE, PW.peek, PW.wUn, PW.wBin, PW.wLk, PW.wLk2, PW.wLkR, PW.wLkB, PW.tB, PW.tTr, PW.truth, PW.tAnd, PW.tOr, PW.tNot, PW.tYes, PW.wAnd, PW.wOr, PW.wNot, PW.wIf, PW.wChain, PW.aNil, PW.aCons, PW.wTup, PW.nLst, PW.nCat, PW.nRep, PW.wPart, PW.fSl, PW.wSl, PW.nSl, PW.wSlL, PW.fAdd, PW.fSub, PW.fMul, PW.fFdiv, PW.fMod, PW.fPow, PW.fShl, PW.fShr, PW.fAnd, PW.fOr, PW.fXor, PW.fNeg, PW.fLt, PW.fLe, PW.fGt, PW.fGe, PW.fEq, PW.fNe, PW.fIsNone, PW.fIsntNone, PW.isNon, PW.fIn, PW.fNotIn, PW.fIx, PW.fLen, PW.fInt, PW.fAbs, PW.fMax2, PW.fMin2, PW.fTuple, PW.fList, PW.fMaxL, PW.fMinL, PW.fIs, PW.isTy, PW.fIsO, PW.fFld, PW.fCon, PW.fTab, PW.fInTab, PW.fNInTab, PW.plain, PW.plainL, PW.eqv, PW.eqvL, PW.small, PW.putO, PW.free, PW.isBo_sh, PW.isBo_un, PW.isBo_ow, PW.isBo_rd, PW.wipe, PW.unwipe, PW.isLst, PW.putF, PW.iSeq, PW.iStr, PW.iRng1, PW.iRng2, PW.iRngD, PW.iEnum, PW.iZip, PW.items, PW.bNil, PW.bV, PW.bB, PW.bR, PW.kCall, PW.kMeth, PW.kMake, PW.oV, PW.oR, PW.oB, PW.isObj, PW.isCls, PW.wSh, PW.nFr, PW.wInO, PW.wNInO, PW.call, PW.lent, PW.lentB, PW.lentR, PW.lentOk, PW.back_nil, PW.back_v, PW.back_r, PW.back_b, PW.entry, PW.noX, PW.b2i, PW.nLc, PW.fDget, PW.fDin, PW.fDnin, PW.fDlen, PW.nDit, PW.nDic, PW.sDput, PW.putKv, PW.dKv, PW.fSortSet, PW.wMt, PW.fSIndex, PW.fSFind, PW.isStr, PW.isLst1, PW.nLc2, PW.elt1, PW.elt2, line_eq]
    rw [small_at (by omega) (by omega)]
    simp [PW.sSeq, PW.sPass, PW.sBreak, PW.sCont, PW.sNever, PW.sExpr, PW.sSet, PW.sNew, PW.sPut, PW.sApp, PW.sFld, PW.sAsg, PW.sRet, PW.sRetN, PW.sRetF, PW.sRetO, PW.sIf, PW.sFor, PW.gN, PW.gT, PW.gUn, PW.wC, PW.wV, PW.rN, PW.rE, PW.peek, PW.wUn, PW.wBin, PW.wLk, PW.wLk2, PW.wLkR, PW.wLkB, PW.tB, PW.tTr, PW.truth, PW.tAnd, PW.tOr, PW.tNot, PW.tYes, PW.wAnd, PW.wOr, PW.wNot, PW.wIf, PW.wChain, PW.aNil, PW.aCons, PW.wTup, PW.nLst, PW.nCat, PW.nRep, PW.wPart, PW.fSl, PW.wSl, PW.nSl, PW.wSlL, PW.fAdd, PW.fSub, PW.fMul, PW.fFdiv, PW.fMod, PW.fPow, PW.fShl, PW.fShr, PW.fAnd, PW.fOr, PW.fXor, PW.fNeg, PW.fLt, PW.fLe, PW.fGt, PW.fGe, PW.fEq, PW.fNe, PW.fIsNone, PW.fIsntNone, PW.isNon, PW.fIn, PW.fNotIn, PW.fIx, PW.fLen, PW.fInt, PW.fAbs, PW.fMax2, PW.fMin2, PW.fTuple, PW.fList, PW.fMaxL, PW.fMinL, PW.fIs, PW.isTy, PW.fIsO, PW.fFld, PW.fCon, PW.fTab, PW.fInTab, PW.fNInTab, PW.plain, PW.plainL, PW.eqv, PW.eqvL, PW.small, PW.putO, PW.free, PW.isBo_sh, PW.isBo_un, PW.isBo_ow, PW.isBo_rd, PW.wipe, PW.unwipe, PW.isLst, PW.putF, PW.iSeq, PW.iStr, PW.iRng1, PW.iRng2, PW.iRngD, PW.iEnum, PW.iZip, PW.items, PW.bNil, PW.bV, PW.bB, PW.bR, PW.kCall, PW.kMeth, PW.kMake, PW.oV, PW.oR, PW.oB, PW.isObj, PW.isCls, PW.wSh, PW.nFr, PW.wInO, PW.wNInO, PW.call, PW.lent, PW.lentB, PW.lentR, PW.lentOk, PW.back_nil, PW.back_v, PW.back_r, PW.back_b, PW.entry, PW.noX, PW.b2i, PW.nLc, PW.fDget, PW.fDin, PW.fDnin, PW.fDlen, PW.nDit, PW.nDic, PW.sDput, PW.putKv, PW.dKv, PW.fSortSet, PW.wMt, PW.fSIndex, PW.fSFind, PW.isStr, PW.isLst1, PW.nLc2, PW.elt1, PW.elt2, line_eq]
    refine ⟨by omega, hK _ ⟨d3, at_ + 1 + r3, s ++ [97 + (at_ + 1 + r3).toNat], _, hd3, by omega, by omega, by simp [hs1], ?_, ?_, rfl, rfl⟩⟩
    · intro c hc
      rcases List.mem_append.mp hc with hc | hc
      · have := hs3 c hc; omega
      · simp at hc; omega
    · rw [List.pairwise_append]
      refine ⟨hs4, by simp, fun a ha b hb => ?_⟩
      have := hs3 a ha
      simp at hb; omega
  · rintro ρ ⟨d, at_, s, kk, hd, ha0, ha1, hs1, hs3, hs4, hk, rfl⟩
    simp [PW.sSeq, PW.sPass, PW.sBreak, PW.sCont, PW.sNever, PW.sExpr, PW.sSet, PW.sNew, PW.sPut, PW.sApp, PW.sFld, PW.sAsg, PW.sRet, PW.sRetN, PW.sRetF, PW.sRetO, PW.sIf, PW.sFor, PW.gN, PW.gT, PW.gUn, PW.wC, PW.wV, PW.rN, PW.rE, PW.peek, PW.wUn, PW.wBin, PW.wLk, PW.wLk2, PW.wLkR, PW.wLkB, PW.tB, PW.tTr, PW.truth, PW.tAnd, PW.tOr, PW.tNot, PW.tYes, PW.wAnd, PW.wOr, PW.wNot, PW.wIf, PW.wChain, PW.aNil, PW.aCons, PW.wTup, PW.nLst, PW.nCat, PW.nRep, PW.wPart, PW.fSl, PW.wSl, PW.nSl, PW.wSlL, PW.fAdd, PW.fSub, PW.fMul, PW.fFdiv, PW.fMod, PW.fPow, PW.fShl, PW.fShr, PW.fAnd, PW.fOr, PW.fXor, PW.fNeg, PW.fLt, PW.fLe, PW.fGt, PW.fGe, PW.fEq, PW.fNe, PW.fIsNone, PW.fIsntNone, PW.isNon, PW.fIn, PW.fNotIn, PW.fIx, PW.fLen, PW.fInt, PW.fAbs, PW.fMax2, PW.fMin2, PW.fTuple, PW.fList, PW.fMaxL, PW.fMinL, PW.fIs, PW.isTy, PW.fIsO, PW.fFld, PW.fCon, PW.fTab, PW.fInTab, PW.fNInTab, PW.plain, PW.plainL, PW.eqv, PW.eqvL, PW.small, PW.putO, PW.free, PW.isBo_sh, PW.isBo_un, PW.isBo_ow, PW.isBo_rd, PW.wipe, PW.unwipe, PW.isLst, PW.putF, PW.iSeq, PW.iStr, PW.iRng1, PW.iRng2, PW.iRngD, PW.iEnum, PW.iZip, PW.items, PW.bNil, PW.bV, PW.bB, PW.bR, PW.kCall, PW.kMeth, PW.kMake, PW.oV, PW.oR, PW.oB, PW.isObj, PW.isCls, PW.wSh, PW.nFr, PW.wInO, PW.wNInO, PW.call, PW.lent, PW.lentB, PW.lentR, PW.lentOk, PW.back_nil, PW.back_v, PW.back_r, PW.back_b, PW.entry, PW.noX, PW.b2i, PW.nLc, PW.fDget, PW.fDin, PW.fDnin, PW.fDlen, PW.nDit, PW.nDic, PW.sDput, PW.putKv, PW.dKv, PW.fSortSet, PW.wMt, PW.fSIndex, PW.fSFind, PW.isStr, PW.isLst1, PW.nLc2, PW.elt1, PW.elt2, line_eq]
    rw [rng_len] at hs1 ha1
    exact h d s hd ⟨by omega, by omega, fun c hc => by have := hs3 c hc; omega, hs4⟩ (by omega) fun c hc => by have := hs3 c hc; omega
def φ__law_alphabet : FSpec := fun ss q _ => ∃ d n, IsSt d ∧ 1 ≤ n ∧ n ≤ 3 ∧ ss = [.bo d, .sh (natD n)] ∧ ∀ d' s, IsSt d' → Lets s → s.length = n → q (.sh (.str s)) [.bo d', .sh (natD n)]
theorem len__law_alphabet : ∀ ss q e, φ__law_alphabet ss q e → ss.length = 2 := by rintro ss q e ⟨d, n, _, _, _, rfl, _⟩; rfl
def w__law_alphabet : PW.WS :=
 (PW.sSeq (PW.sSet 2 (PW.wC (.str [97, 98, 99, 100, 101, 102, 103, 104, 105, 106, 107, 108, 109, 110, 111, 112, 113, 114, 115, 116, 117, 118, 119, 120, 121, 122])))
 (PW.sSeq (PW.sSet 3 (PW.wSh (PW.kCall φ__law_draw [] (PW.bB 0 (PW.bV (PW.wC (.int 8)) PW.bNil)))))
 (PW.sSeq (PW.sSet 4 (PW.wLk2 PW.fIx (PW.rN 2) (PW.wV 3)))
 (PW.sSeq (PW.sFor (PW.iRng1 (PW.wBin PW.fSub (PW.wV 1) (PW.wC (.int 1)))) (PW.gN 5)
 (PW.sSeq (PW.sSet 3 (PW.wBin PW.fAdd (PW.wBin PW.fAdd (PW.wV 3) (PW.wC (.int 1))) (PW.wSh (PW.kCall φ__law_draw [] (PW.bB 0 (PW.bV (PW.wC (.int 8)) PW.bNil))))))
 (PW.sSet 4 (PW.wBin PW.fAdd (PW.wV 4) (PW.wLk2 PW.fIx (PW.rN 2) (PW.wV 3))))))
 (PW.sRet (PW.wV 4))))))

theorem hs__law_alphabet : Does φ__law_alphabet 6 w__law_alphabet := by
  rintro ss q e ⟨d, n, hd, hm1, hm3, rfl, h⟩
  simp [w__law_alphabet, natD, PW.sSeq, PW.sPass, PW.sBreak, PW.sCont, PW.sNever, PW.sExpr, PW.sSet, PW.sNew, PW.sPut, PW.sApp, PW.sFld, PW.sAsg, PW.sRet, PW.sRetN, PW.sRetF, PW.sRetO, PW.sIf, PW.sFor, PW.gN, PW.gT, PW.gUn, PW.wC, PW.wV, PW.rN, PW.rE, PW.peek, PW.wUn, PW.wBin, PW.wLk, PW.wLk2, PW.wLkR, PW.wLkB, PW.tB, PW.tTr, PW.truth, PW.tAnd, PW.tOr, PW.tNot, PW.tYes, PW.wAnd, PW.wOr, PW.wNot, PW.wIf, PW.wChain, PW.aNil, PW.aCons, PW.wTup, PW.nLst, PW.nCat, PW.nRep, PW.wPart, PW.fSl, PW.wSl, PW.nSl, PW.wSlL, PW.fAdd, PW.fSub, PW.fMul, PW.fFdiv, PW.fMod, PW.fPow, PW.fShl, PW.fShr, PW.fAnd, PW.fOr, PW.fXor, PW.fNeg, PW.fLt, PW.fLe, PW.fGt, PW.fGe, PW.fEq, PW.fNe, PW.fIsNone, PW.fIsntNone, PW.isNon, PW.fIn, PW.fNotIn, PW.fIx, PW.fLen, PW.fInt, PW.fAbs, PW.fMax2, PW.fMin2, PW.fTuple, PW.fList, PW.fMaxL, PW.fMinL, PW.fIs, PW.isTy, PW.fIsO, PW.fFld, PW.fCon, PW.fTab, PW.fInTab, PW.fNInTab, PW.plain, PW.plainL, PW.eqv, PW.eqvL, PW.small, PW.putO, PW.free, PW.isBo_sh, PW.isBo_un, PW.isBo_ow, PW.isBo_rd, PW.wipe, PW.unwipe, PW.isLst, PW.putF, PW.iSeq, PW.iStr, PW.iRng1, PW.iRng2, PW.iRngD, PW.iEnum, PW.iZip, PW.items, PW.bNil, PW.bV, PW.bB, PW.bR, PW.kCall, PW.kMeth, PW.kMake, PW.oV, PW.oR, PW.oB, PW.isObj, PW.isCls, PW.wSh, PW.nFr, PW.wInO, PW.wNInO, PW.call, PW.lent, PW.lentB, PW.lentR, PW.lentOk, PW.back_nil, PW.back_v, PW.back_r, PW.back_b, PW.entry, PW.noX, PW.b2i, PW.nLc, PW.fDget, PW.fDin, PW.fDnin, PW.fDlen, PW.nDit, PW.nDic, PW.sDput, PW.putKv, PW.dKv, PW.fSortSet, PW.wMt, PW.fSIndex, PW.fSFind, PW.isStr, PW.isLst1, PW.nLc2, PW.elt1, PW.elt2, line_eq]
  refine ⟨d, 8, hd, by omega, by omega, rfl, fun d2 r2 hd2 h2 h3 => ?_⟩
  simp [PW.sSeq, PW.sPass, PW.sBreak, PW.sCont, PW.sNever, PW.sExpr, PW.sSet, PW.sNew, PW.sPut, PW.sApp, PW.sFld, PW.sAsg, PW.sRet, PW.sRetN, PW.sRetF, PW.sRetO, PW.sIf, PW.sFor, PW.gN, PW.gT, PW.gUn, PW.wC, PW.wV, PW.rN, PW.rE, PW.peek, PW.wUn, PW.wBin, PW.wLk, PW.wLk2, PW.wLkR, PW.wLkB, PW.tB, PW.tTr, PW.truth, PW.tAnd, PW.tOr, PW.tNot, PW.tYes, PW.wAnd, PW.wOr, PW.wNot, PW.wIf, PW.wChain, PW.aNil, PW.aCons, PW.wTup, PW.nLst, PW.nCat, PW.nRep, PW.wPart, PW.fSl, PW.wSl, PW.nSl, PW.wSlL, PW.fAdd, PW.fSub, PW.fMul, PW.fFdiv, PW.fMod, PW.fPow, PW.fShl, PW.fShr, PW.fAnd, PW.fOr, PW.fXor, PW.fNeg, PW.fLt, PW.fLe, PW.fGt, PW.fGe, PW.fEq, PW.fNe, PW.fIsNone, PW.fIsntNone, PW.isNon, PW.fIn, PW.fNotIn, PW.fIx, PW.fLen, PW.fInt, PW.fAbs, PW.fMax2, PW.fMin2, PW.fTuple, PW.fList, PW.fMaxL, PW.fMinL, PW.fIs, PW.isTy, PW.fIsO, PW.fFld, PW.fCon, PW.fTab, PW.fInTab, PW.fNInTab, PW.plain, PW.plainL, PW.eqv, PW.eqvL, PW.small, PW.putO, PW.free, PW.isBo_sh, PW.isBo_un, PW.isBo_ow, PW.isBo_rd, PW.wipe, PW.unwipe, PW.isLst, PW.putF, PW.iSeq, PW.iStr, PW.iRng1, PW.iRng2, PW.iRngD, PW.iEnum, PW.iZip, PW.items, PW.bNil, PW.bV, PW.bB, PW.bR, PW.kCall, PW.kMeth, PW.kMake, PW.oV, PW.oR, PW.oB, PW.isObj, PW.isCls, PW.wSh, PW.nFr, PW.wInO, PW.wNInO, PW.call, PW.lent, PW.lentB, PW.lentR, PW.lentOk, PW.back_nil, PW.back_v, PW.back_r, PW.back_b, PW.entry, PW.noX, PW.b2i, PW.nLc, PW.fDget, PW.fDin, PW.fDnin, PW.fDlen, PW.nDit, PW.nDic, PW.sDput, PW.putKv, PW.dKv, PW.fSortSet, PW.wMt, PW.fSIndex, PW.fSFind, PW.isStr, PW.isLst1, PW.nLc2, PW.elt1, PW.elt2, line_eq]
  rw [small_at h2 (by omega)]
  simp [PW.sSeq, PW.sPass, PW.sBreak, PW.sCont, PW.sNever, PW.sExpr, PW.sSet, PW.sNew, PW.sPut, PW.sApp, PW.sFld, PW.sAsg, PW.sRet, PW.sRetN, PW.sRetF, PW.sRetO, PW.sIf, PW.sFor, PW.gN, PW.gT, PW.gUn, PW.wC, PW.wV, PW.rN, PW.rE, PW.peek, PW.wUn, PW.wBin, PW.wLk, PW.wLk2, PW.wLkR, PW.wLkB, PW.tB, PW.tTr, PW.truth, PW.tAnd, PW.tOr, PW.tNot, PW.tYes, PW.wAnd, PW.wOr, PW.wNot, PW.wIf, PW.wChain, PW.aNil, PW.aCons, PW.wTup, PW.nLst, PW.nCat, PW.nRep, PW.wPart, PW.fSl, PW.wSl, PW.nSl, PW.wSlL, PW.fAdd, PW.fSub, PW.fMul, PW.fFdiv, PW.fMod, PW.fPow, PW.fShl, PW.fShr, PW.fAnd, PW.fOr, PW.fXor, PW.fNeg, PW.fLt, PW.fLe, PW.fGt, PW.fGe, PW.fEq, PW.fNe, PW.fIsNone, PW.fIsntNone, PW.isNon, PW.fIn, PW.fNotIn, PW.fIx, PW.fLen, PW.fInt, PW.fAbs, PW.fMax2, PW.fMin2, PW.fTuple, PW.fList, PW.fMaxL, PW.fMinL, PW.fIs, PW.isTy, PW.fIsO, PW.fFld, PW.fCon, PW.fTab, PW.fInTab, PW.fNInTab, PW.plain, PW.plainL, PW.eqv, PW.eqvL, PW.small, PW.putO, PW.free, PW.isBo_sh, PW.isBo_un, PW.isBo_ow, PW.isBo_rd, PW.wipe, PW.unwipe, PW.isLst, PW.putF, PW.iSeq, PW.iStr, PW.iRng1, PW.iRng2, PW.iRngD, PW.iEnum, PW.iZip, PW.items, PW.bNil, PW.bV, PW.bB, PW.bR, PW.kCall, PW.kMeth, PW.kMake, PW.oV, PW.oR, PW.oB, PW.isObj, PW.isCls, PW.wSh, PW.nFr, PW.wInO, PW.wNInO, PW.call, PW.lent, PW.lentB, PW.lentR, PW.lentOk, PW.back_nil, PW.back_v, PW.back_r, PW.back_b, PW.entry, PW.noX, PW.b2i, PW.nLc, PW.fDget, PW.fDin, PW.fDnin, PW.fDlen, PW.nDit, PW.nDic, PW.sDput, PW.putKv, PW.dKv, PW.fSortSet, PW.wMt, PW.fSIndex, PW.fSFind, PW.isStr, PW.isLst1, PW.nLc2, PW.elt1, PW.elt2, line_eq]
  refine ⟨by unfold rngB; omega, ?_⟩
  refine loop_ix _ (fun i ρ => ∃ (d : D) (at_ : Int) (s : List Nat) (kk : Sl), IsSt d ∧ 0 ≤ at_ ∧ at_ ≤ 7 + 8 * i ∧ s.length = i + 1 ∧ (∀ c ∈ s, 97 ≤ c ∧ c ≤ 97 + at_.toNat) ∧ s.Pairwise (· < ·) ∧ isBo kk = false ∧ ρ = [.bo d, .sh (.int n), .sh (.str [97, 98, 99, 100, 101, 102, 103, 104, 105, 106, 107, 108, 109, 110, 111, 112, 113, 114, 115, 116, 117, 118, 119, 120, 121, 122]), .sh (.int at_), .sh (.str s), kk])
    ⟨d2, r2, [97 + r2.toNat], .un, hd2, h2, by omega, rfl, by simp, by simp, rfl, rfl⟩ ?_ ?_
  · rintro i x ρ K hx ⟨d, at_, s, kk, hd, ha0, ha1, hs1, hs3, hs4, hk, rfl⟩ hK
    obtain ⟨hi, rfl⟩ := rng_some hx
    simp [PW.sSeq, PW.sPass, PW.sBreak, PW.sCont, PW.sNever, PW.sExpr, PW.sSet, PW.sNew, PW.sPut, PW.sApp, PW.sFld, PW.sAsg, PW.sRet, PW.sRetN, PW.sRetF, PW.sRetO, PW.sIf, PW.sFor, PW.gN, PW.gT, PW.gUn, PW.wC, PW.wV, PW.rN, PW.rE, PW.peek, PW.wUn, PW.wBin, PW.wLk, PW.wLk2, PW.wLkR, PW.wLkB, PW.tB, PW.tTr, PW.truth, PW.tAnd, PW.tOr, PW.tNot, PW.tYes, PW.wAnd, PW.wOr, PW.wNot, PW.wIf, PW.wChain, PW.aNil, PW.aCons, PW.wTup, PW.nLst, PW.nCat, PW.nRep, PW.wPart, PW.fSl, PW.wSl, PW.nSl, PW.wSlL, PW.fAdd, PW.fSub, PW.fMul, PW.fFdiv, PW.fMod, PW.fPow, PW.fShl, PW.fShr, PW.fAnd, PW.fOr, PW.fXor, PW.fNeg, PW.fLt, PW.fLe, PW.fGt, PW.fGe, PW.fEq, PW.fNe, PW.fIsNone, PW.fIsntNone, PW.isNon, PW.fIn, PW.fNotIn, PW.fIx, PW.fLen, PW.fInt, PW.fAbs, PW.fMax2, PW.fMin2, PW.fTuple, PW.fList, PW.fMaxL, PW.fMinL, PW.fIs, PW.isTy, PW.fIsO, PW.fFld, PW.fCon, PW.fTab, PW.fInTab, PW.fNInTab, PW.plain, PW.plainL, PW.eqv, PW.eqvL, PW.small, PW.putO, PW.free, PW.isBo_sh, PW.isBo_un, PW.isBo_ow, PW.isBo_rd, PW.wipe, PW.unwipe, PW.isLst, PW.putF, PW.iSeq, PW.iStr, PW.iRng1, PW.iRng2, PW.iRngD, PW.iEnum, PW.iZip, PW.items, PW.bNil, PW.bV, PW.bB, PW.bR, PW.kCall, PW.kMeth, PW.kMake, PW.oV, PW.oR, PW.oB, PW.isObj, PW.isCls, PW.wSh, PW.nFr, PW.wInO, PW.wNInO, PW.call, PW.lent, PW.lentB, PW.lentR, PW.lentOk, PW.back_nil, PW.back_v, PW.back_r, PW.back_b, PW.entry, PW.noX, PW.b2i, PW.nLc, PW.fDget, PW.fDin, PW.fDnin, PW.fDlen, PW.nDit, PW.nDic, PW.sDput, PW.putKv, PW.dKv, PW.fSortSet, PW.wMt, PW.fSIndex, PW.fSFind, PW.isStr, PW.isLst1, PW.nLc2, PW.elt1, PW.elt2, line_eq, hk]
    refine ⟨d, 8, hd, by omega, by omega, rfl, fun d3 r3 hd3 h4 h5 => ?_⟩
    simp [PW.sSeq, PW.sPass, PW.sBreak, PW.sCont, PW.sNever, PW.sExpr, PW.sSet, PW.sNew, PW.sPut, PW.sApp, PW.sFld, PW.sAsg, PW.sRet, PW.sRetN, PW.sRetF, PW.sRetO, PW.sIf, PW.sFor, PW.gN, PW.gT, PW.gUn, PW.wC, PW.wV, PW.rN, PW.rE, PW.peek, PW.wUn, PW.wBin, PW.wLk, PW.wLk2, PW.wLkR, PW.wLkB, PW.tB, PW.tTr, PW.truth, PW.tAnd, PW.tOr, PW.tNot, PW.tYes, PW.wAnd, PW.wOr, PW.wNot, PW.wIf, PW.wChain, PW.aNil, PW.aCons, PW.wTup, PW.nLst, PW.nCat, PW.nRep, PW.wPart, PW.fSl, PW.wSl, PW.nSl, PW.wSlL, PW.fAdd, PW.fSub, PW.fMul, PW.fFdiv, PW.fMod, PW.fPow, PW.fShl, PW.fShr, PW.fAnd, PW.fOr, PW.fXor, PW.fNeg, PW.fLt, PW.fLe, PW.fGt, PW.fGe, PW.fEq, PW.fNe, PW.fIsNone, PW.fIsntNone, PW.isNon, PW.fIn, PW.fNotIn, PW.fIx, PW.fLen, PW.fInt, PW.fAbs, PW.fMax2, PW.fMin2, PW.fTuple, PW.fList, PW.fMaxL, PW.fMinL, PW.fIs, PW.isTy, PW.fIsO, PW.fFld, PW.fCon, PW.fTab, PW.fInTab, PW.fNInTab, PW.plain, PW.plainL, PW.eqv, PW.eqvL, PW.small, PW.putO, PW.free, PW.isBo_sh, PW.isBo_un, PW.isBo_ow, PW.isBo_rd, PW.wipe, PW.unwipe, PW.isLst, PW.putF, PW.iSeq, PW.iStr, PW.iRng1, PW.iRng2, PW.iRngD, PW.iEnum, PW.iZip, PW.items, PW.bNil, PW.bV, PW.bB, PW.bR, PW.kCall, PW.kMeth, PW.kMake, PW.oV, PW.oR, PW.oB, PW.isObj, PW.isCls, PW.wSh, PW.nFr, PW.wInO, PW.wNInO, PW.call, PW.lent, PW.lentB, PW.lentR, PW.lentOk, PW.back_nil, PW.back_v, PW.back_r, PW.back_b, PW.entry, PW.noX, PW.b2i, PW.nLc, PW.fDget, PW.fDin, PW.fDnin, PW.fDlen, PW.nDit, PW.nDic, PW.sDput, PW.putKv, PW.dKv, PW.fSortSet, PW.wMt, PW.fSIndex, PW.fSFind, PW.isStr, PW.isLst1, PW.nLc2, PW.elt1, PW.elt2, line_eq]
    rw [small_at (by omega) (by omega)]
    simp [PW.sSeq, PW.sPass, PW.sBreak, PW.sCont, PW.sNever, PW.sExpr, PW.sSet, PW.sNew, PW.sPut, PW.sApp, PW.sFld, PW.sAsg, PW.sRet, PW.sRetN, PW.sRetF, PW.sRetO, PW.sIf, PW.sFor, PW.gN, PW.gT, PW.gUn, PW.wC, PW.wV, PW.rN, PW.rE, PW.peek, PW.wUn, PW.wBin, PW.wLk, PW.wLk2, PW.wLkR, PW.wLkB, PW.tB, PW.tTr, PW.truth, PW.tAnd, PW.tOr, PW.tNot, PW.tYes, PW.wAnd, PW.wOr, PW.wNot, PW.wIf, PW.wChain, PW.aNil, PW.aCons, PW.wTup, PW.nLst, PW.nCat, PW.nRep, PW.wPart, PW.fSl, PW.wSl, PW.nSl, PW.wSlL, PW.fAdd, PW.fSub, PW.fMul, PW.fFdiv, PW.fMod, PW.fPow, PW.fShl, PW.fShr, PW.fAnd, PW.fOr, PW.fXor, PW.fNeg, PW.fLt, PW.fLe, PW.fGt, PW.fGe, PW.fEq, PW.fNe, PW.fIsNone, PW.fIsntNone, PW.isNon, PW.fIn, PW.fNotIn, PW.fIx, PW.fLen, PW.fInt, PW.fAbs, PW.fMax2, PW.fMin2, PW.fTuple, PW.fList, PW.fMaxL, PW.fMinL, PW.fIs, PW.isTy, PW.fIsO, PW.fFld, PW.fCon, PW.fTab, PW.fInTab, PW.fNInTab, PW.plain, PW.plainL, PW.eqv, PW.eqvL, PW.small, PW.putO, PW.free, PW.isBo_sh, PW.isBo_un, PW.isBo_ow, PW.isBo_rd, PW.wipe, PW.unwipe, PW.isLst, PW.putF, PW.iSeq, PW.iStr, PW.iRng1, PW.iRng2, PW.iRngD, PW.iEnum, PW.iZip, PW.items, PW.bNil, PW.bV, PW.bB, PW.bR, PW.kCall, PW.kMeth, PW.kMake, PW.oV, PW.oR, PW.oB, PW.isObj, PW.isCls, PW.wSh, PW.nFr, PW.wInO, PW.wNInO, PW.call, PW.lent, PW.lentB, PW.lentR, PW.lentOk, PW.back_nil, PW.back_v, PW.back_r, PW.back_b, PW.entry, PW.noX, PW.b2i, PW.nLc, PW.fDget, PW.fDin, PW.fDnin, PW.fDlen, PW.nDit, PW.nDic, PW.sDput, PW.putKv, PW.dKv, PW.fSortSet, PW.wMt, PW.fSIndex, PW.fSFind, PW.isStr, PW.isLst1, PW.nLc2, PW.elt1, PW.elt2, line_eq]
    refine ⟨by omega, hK _ ⟨d3, at_ + 1 + r3, s ++ [97 + (at_ + 1 + r3).toNat], _, hd3, by omega, by omega, by simp [hs1], ?_, ?_, rfl, rfl⟩⟩
    · intro c hc
      rcases List.mem_append.mp hc with hc | hc
      · have := hs3 c hc; omega
      · simp at hc; omega
    · rw [List.pairwise_append]
      refine ⟨hs4, by simp, fun a ha b hb => ?_⟩
      have := hs3 a ha
      simp at hb; omega
  · rintro ρ ⟨d, at_, s, kk, hd, ha0, ha1, hs1, hs3, hs4, hk, rfl⟩
    simp [PW.sSeq, PW.sPass, PW.sBreak, PW.sCont, PW.sNever, PW.sExpr, PW.sSet, PW.sNew, PW.sPut, PW.sApp, PW.sFld, PW.sAsg, PW.sRet, PW.sRetN, PW.sRetF, PW.sRetO, PW.sIf, PW.sFor, PW.gN, PW.gT, PW.gUn, PW.wC, PW.wV, PW.rN, PW.rE, PW.peek, PW.wUn, PW.wBin, PW.wLk, PW.wLk2, PW.wLkR, PW.wLkB, PW.tB, PW.tTr, PW.truth, PW.tAnd, PW.tOr, PW.tNot, PW.tYes, PW.wAnd, PW.wOr, PW.wNot, PW.wIf, PW.wChain, PW.aNil, PW.aCons, PW.wTup, PW.nLst, PW.nCat, PW.nRep, PW.wPart, PW.fSl, PW.wSl, PW.nSl, PW.wSlL, PW.fAdd, PW.fSub, PW.fMul, PW.fFdiv, PW.fMod, PW.fPow, PW.fShl, PW.fShr, PW.fAnd, PW.fOr, PW.fXor, PW.fNeg, PW.fLt, PW.fLe, PW.fGt, PW.fGe, PW.fEq, PW.fNe, PW.fIsNone, PW.fIsntNone, PW.isNon, PW.fIn, PW.fNotIn, PW.fIx, PW.fLen, PW.fInt, PW.fAbs, PW.fMax2, PW.fMin2, PW.fTuple, PW.fList, PW.fMaxL, PW.fMinL, PW.fIs, PW.isTy, PW.fIsO, PW.fFld, PW.fCon, PW.fTab, PW.fInTab, PW.fNInTab, PW.plain, PW.plainL, PW.eqv, PW.eqvL, PW.small, PW.putO, PW.free, PW.isBo_sh, PW.isBo_un, PW.isBo_ow, PW.isBo_rd, PW.wipe, PW.unwipe, PW.isLst, PW.putF, PW.iSeq, PW.iStr, PW.iRng1, PW.iRng2, PW.iRngD, PW.iEnum, PW.iZip, PW.items, PW.bNil, PW.bV, PW.bB, PW.bR, PW.kCall, PW.kMeth, PW.kMake, PW.oV, PW.oR, PW.oB, PW.isObj, PW.isCls, PW.wSh, PW.nFr, PW.wInO, PW.wNInO, PW.call, PW.lent, PW.lentB, PW.lentR, PW.lentOk, PW.back_nil, PW.back_v, PW.back_r, PW.back_b, PW.entry, PW.noX, PW.b2i, PW.nLc, PW.fDget, PW.fDin, PW.fDnin, PW.fDlen, PW.nDit, PW.nDic, PW.sDput, PW.putKv, PW.dKv, PW.fSortSet, PW.wMt, PW.fSIndex, PW.fSFind, PW.isStr, PW.isLst1, PW.nLc2, PW.elt1, PW.elt2, line_eq]
    rw [rng_len] at hs1 ha1
    exact h d s hd ⟨by omega, by omega, fun c hc => by have := hs3 c hc; omega, hs4⟩ (by omega)
def φ__law_turned : FSpec := fun ss q _ => ∃ w, w.length ≤ 1000 ∧ ss = [.sh (.str w)] ∧ ∀ os, q (.sh (.str w.reverse)) os
theorem len__law_turned : ∀ ss q e, φ__law_turned ss q e → ss.length = 1 := by rintro ss q e ⟨w, _, rfl, _⟩; rfl
def w__law_turned : PW.WS :=
 (PW.sSeq (PW.sSet 1 (PW.wC (.str [])))
 (PW.sSeq (PW.sFor (PW.iStr (PW.wV 0)) (PW.gN 2)
 (PW.sSet 1 (PW.wBin PW.fAdd (PW.wV 2) (PW.wV 1))))
 (PW.sRet (PW.wV 1))))

theorem hs__law_turned : Does φ__law_turned 3 w__law_turned := by
  rintro ss q e ⟨w, hw, rfl, h⟩
  have hl : w.length ≤ 16777216 := by omega
  simp [w__law_turned, PW.sSeq, PW.sPass, PW.sBreak, PW.sCont, PW.sNever, PW.sExpr, PW.sSet, PW.sNew, PW.sPut, PW.sApp, PW.sFld, PW.sAsg, PW.sRet, PW.sRetN, PW.sRetF, PW.sRetO, PW.sIf, PW.sFor, PW.gN, PW.gT, PW.gUn, PW.wC, PW.wV, PW.rN, PW.rE, PW.peek, PW.wUn, PW.wBin, PW.wLk, PW.wLk2, PW.wLkR, PW.wLkB, PW.tB, PW.tTr, PW.truth, PW.tAnd, PW.tOr, PW.tNot, PW.tYes, PW.wAnd, PW.wOr, PW.wNot, PW.wIf, PW.wChain, PW.aNil, PW.aCons, PW.wTup, PW.nLst, PW.nCat, PW.nRep, PW.wPart, PW.fSl, PW.wSl, PW.nSl, PW.wSlL, PW.fAdd, PW.fSub, PW.fMul, PW.fFdiv, PW.fMod, PW.fPow, PW.fShl, PW.fShr, PW.fAnd, PW.fOr, PW.fXor, PW.fNeg, PW.fLt, PW.fLe, PW.fGt, PW.fGe, PW.fEq, PW.fNe, PW.fIsNone, PW.fIsntNone, PW.isNon, PW.fIn, PW.fNotIn, PW.fIx, PW.fLen, PW.fInt, PW.fAbs, PW.fMax2, PW.fMin2, PW.fTuple, PW.fList, PW.fMaxL, PW.fMinL, PW.fIs, PW.isTy, PW.fIsO, PW.fFld, PW.fCon, PW.fTab, PW.fInTab, PW.fNInTab, PW.plain, PW.plainL, PW.eqv, PW.eqvL, PW.small, PW.putO, PW.free, PW.isBo_sh, PW.isBo_un, PW.isBo_ow, PW.isBo_rd, PW.wipe, PW.unwipe, PW.isLst, PW.putF, PW.iSeq, PW.iStr, PW.iRng1, PW.iRng2, PW.iRngD, PW.iEnum, PW.iZip, PW.items, PW.bNil, PW.bV, PW.bB, PW.bR, PW.kCall, PW.kMeth, PW.kMake, PW.oV, PW.oR, PW.oB, PW.isObj, PW.isCls, PW.wSh, PW.nFr, PW.wInO, PW.wNInO, PW.call, PW.lent, PW.lentB, PW.lentR, PW.lentOk, PW.back_nil, PW.back_v, PW.back_r, PW.back_b, PW.entry, PW.noX, PW.b2i, PW.nLc, PW.fDget, PW.fDin, PW.fDnin, PW.fDlen, PW.nDit, PW.nDic, PW.sDput, PW.putKv, PW.dKv, PW.fSortSet, PW.wMt, PW.fSIndex, PW.fSFind, PW.isStr, PW.isLst1, PW.nLc2, PW.elt1, PW.elt2, line_eq, hl]
  refine loop_ix _ (fun i ρ => ∃ kk, isBo kk = false ∧ ρ = [.sh (.str w), .sh (.str (w.take i).reverse), kk]) ⟨.un, rfl, rfl⟩ ?_ ?_
  · rintro i x ρ K hx ⟨kk, hk, rfl⟩ hK
    rw [List.getElem?_map] at hx
    obtain ⟨c, hc, rfl⟩ := Option.map_eq_some_iff.mp hx
    simp [PW.sSeq, PW.sPass, PW.sBreak, PW.sCont, PW.sNever, PW.sExpr, PW.sSet, PW.sNew, PW.sPut, PW.sApp, PW.sFld, PW.sAsg, PW.sRet, PW.sRetN, PW.sRetF, PW.sRetO, PW.sIf, PW.sFor, PW.gN, PW.gT, PW.gUn, PW.wC, PW.wV, PW.rN, PW.rE, PW.peek, PW.wUn, PW.wBin, PW.wLk, PW.wLk2, PW.wLkR, PW.wLkB, PW.tB, PW.tTr, PW.truth, PW.tAnd, PW.tOr, PW.tNot, PW.tYes, PW.wAnd, PW.wOr, PW.wNot, PW.wIf, PW.wChain, PW.aNil, PW.aCons, PW.wTup, PW.nLst, PW.nCat, PW.nRep, PW.wPart, PW.fSl, PW.wSl, PW.nSl, PW.wSlL, PW.fAdd, PW.fSub, PW.fMul, PW.fFdiv, PW.fMod, PW.fPow, PW.fShl, PW.fShr, PW.fAnd, PW.fOr, PW.fXor, PW.fNeg, PW.fLt, PW.fLe, PW.fGt, PW.fGe, PW.fEq, PW.fNe, PW.fIsNone, PW.fIsntNone, PW.isNon, PW.fIn, PW.fNotIn, PW.fIx, PW.fLen, PW.fInt, PW.fAbs, PW.fMax2, PW.fMin2, PW.fTuple, PW.fList, PW.fMaxL, PW.fMinL, PW.fIs, PW.isTy, PW.fIsO, PW.fFld, PW.fCon, PW.fTab, PW.fInTab, PW.fNInTab, PW.plain, PW.plainL, PW.eqv, PW.eqvL, PW.small, PW.putO, PW.free, PW.isBo_sh, PW.isBo_un, PW.isBo_ow, PW.isBo_rd, PW.wipe, PW.unwipe, PW.isLst, PW.putF, PW.iSeq, PW.iStr, PW.iRng1, PW.iRng2, PW.iRngD, PW.iEnum, PW.iZip, PW.items, PW.bNil, PW.bV, PW.bB, PW.bR, PW.kCall, PW.kMeth, PW.kMake, PW.oV, PW.oR, PW.oB, PW.isObj, PW.isCls, PW.wSh, PW.nFr, PW.wInO, PW.wNInO, PW.call, PW.lent, PW.lentB, PW.lentR, PW.lentOk, PW.back_nil, PW.back_v, PW.back_r, PW.back_b, PW.entry, PW.noX, PW.b2i, PW.nLc, PW.fDget, PW.fDin, PW.fDnin, PW.fDlen, PW.nDit, PW.nDic, PW.sDput, PW.putKv, PW.dKv, PW.fSortSet, PW.wMt, PW.fSIndex, PW.fSFind, PW.isStr, PW.isLst1, PW.nLc2, PW.elt1, PW.elt2, line_eq, hk]
    refine ⟨by omega, hK _ ⟨.sh (.str [c]), rfl, ?_⟩⟩
    rw [List.take_add_one, hc]; simp
  · rintro ρ ⟨kk, hk, rfl⟩
    simp [PW.sSeq, PW.sPass, PW.sBreak, PW.sCont, PW.sNever, PW.sExpr, PW.sSet, PW.sNew, PW.sPut, PW.sApp, PW.sFld, PW.sAsg, PW.sRet, PW.sRetN, PW.sRetF, PW.sRetO, PW.sIf, PW.sFor, PW.gN, PW.gT, PW.gUn, PW.wC, PW.wV, PW.rN, PW.rE, PW.peek, PW.wUn, PW.wBin, PW.wLk, PW.wLk2, PW.wLkR, PW.wLkB, PW.tB, PW.tTr, PW.truth, PW.tAnd, PW.tOr, PW.tNot, PW.tYes, PW.wAnd, PW.wOr, PW.wNot, PW.wIf, PW.wChain, PW.aNil, PW.aCons, PW.wTup, PW.nLst, PW.nCat, PW.nRep, PW.wPart, PW.fSl, PW.wSl, PW.nSl, PW.wSlL, PW.fAdd, PW.fSub, PW.fMul, PW.fFdiv, PW.fMod, PW.fPow, PW.fShl, PW.fShr, PW.fAnd, PW.fOr, PW.fXor, PW.fNeg, PW.fLt, PW.fLe, PW.fGt, PW.fGe, PW.fEq, PW.fNe, PW.fIsNone, PW.fIsntNone, PW.isNon, PW.fIn, PW.fNotIn, PW.fIx, PW.fLen, PW.fInt, PW.fAbs, PW.fMax2, PW.fMin2, PW.fTuple, PW.fList, PW.fMaxL, PW.fMinL, PW.fIs, PW.isTy, PW.fIsO, PW.fFld, PW.fCon, PW.fTab, PW.fInTab, PW.fNInTab, PW.plain, PW.plainL, PW.eqv, PW.eqvL, PW.small, PW.putO, PW.free, PW.isBo_sh, PW.isBo_un, PW.isBo_ow, PW.isBo_rd, PW.wipe, PW.unwipe, PW.isLst, PW.putF, PW.iSeq, PW.iStr, PW.iRng1, PW.iRng2, PW.iRngD, PW.iEnum, PW.iZip, PW.items, PW.bNil, PW.bV, PW.bB, PW.bR, PW.kCall, PW.kMeth, PW.kMake, PW.oV, PW.oR, PW.oB, PW.isObj, PW.isCls, PW.wSh, PW.nFr, PW.wInO, PW.wNInO, PW.call, PW.lent, PW.lentB, PW.lentR, PW.lentOk, PW.back_nil, PW.back_v, PW.back_r, PW.back_b, PW.entry, PW.noX, PW.b2i, PW.nLc, PW.fDget, PW.fDin, PW.fDnin, PW.fDlen, PW.nDit, PW.nDic, PW.sDput, PW.putKv, PW.dKv, PW.fSortSet, PW.wMt, PW.fSIndex, PW.fSFind, PW.isStr, PW.isLst1, PW.nLc2, PW.elt1, PW.elt2, line_eq]
    exact h _
/-- letters by their places -/
def xch (s t : List Nat) (c : Nat) : Nat := t.getD (s.idxOf c) 0
def φ__law_exchanged : FSpec := fun ss q _ => ∃ w s t, Over s w ∧ s.length = t.length ∧ s.length ≤ 1000 ∧ w.length ≤ 1000 ∧ ss = [.sh (.str w), .sh (.str s), .sh (.str t)] ∧ ∀ os, q (.sh (.str (w.map (xch s t)))) os
theorem len__law_exchanged : ∀ ss q e, φ__law_exchanged ss q e → ss.length = 3 := by rintro ss q e ⟨w, s, t, _, _, _, _, rfl, _⟩; rfl
def w__law_exchanged : PW.WS :=
 (PW.sSeq (PW.sSet 3 (PW.wC (.str [])))
 (PW.sSeq (PW.sFor (PW.iStr (PW.wV 0)) (PW.gN 4)
 (PW.sSet 3 (PW.wBin PW.fAdd (PW.wV 3) (PW.wLk2 PW.fIx (PW.rN 2) (PW.wMt PW.isStr PW.fSIndex (PW.rN 1) (PW.wV 4))))))
 (PW.sRet (PW.wV 3))))

theorem hs__law_exchanged : Does φ__law_exchanged 5 w__law_exchanged := by
  rintro ss q e ⟨w, s, t, ho, hst, hs, hw, rfl, h⟩
  have hl : w.length ≤ 16777216 := by omega
  have ht : t.length ≤ 16777216 := by omega
  simp [w__law_exchanged, PW.sSeq, PW.sPass, PW.sBreak, PW.sCont, PW.sNever, PW.sExpr, PW.sSet, PW.sNew, PW.sPut, PW.sApp, PW.sFld, PW.sAsg, PW.sRet, PW.sRetN, PW.sRetF, PW.sRetO, PW.sIf, PW.sFor, PW.gN, PW.gT, PW.gUn, PW.wC, PW.wV, PW.rN, PW.rE, PW.peek, PW.wUn, PW.wBin, PW.wLk, PW.wLk2, PW.wLkR, PW.wLkB, PW.tB, PW.tTr, PW.truth, PW.tAnd, PW.tOr, PW.tNot, PW.tYes, PW.wAnd, PW.wOr, PW.wNot, PW.wIf, PW.wChain, PW.aNil, PW.aCons, PW.wTup, PW.nLst, PW.nCat, PW.nRep, PW.wPart, PW.fSl, PW.wSl, PW.nSl, PW.wSlL, PW.fAdd, PW.fSub, PW.fMul, PW.fFdiv, PW.fMod, PW.fPow, PW.fShl, PW.fShr, PW.fAnd, PW.fOr, PW.fXor, PW.fNeg, PW.fLt, PW.fLe, PW.fGt, PW.fGe, PW.fEq, PW.fNe, PW.fIsNone, PW.fIsntNone, PW.isNon, PW.fIn, PW.fNotIn, PW.fIx, PW.fLen, PW.fInt, PW.fAbs, PW.fMax2, PW.fMin2, PW.fTuple, PW.fList, PW.fMaxL, PW.fMinL, PW.fIs, PW.isTy, PW.fIsO, PW.fFld, PW.fCon, PW.fTab, PW.fInTab, PW.fNInTab, PW.plain, PW.plainL, PW.eqv, PW.eqvL, PW.small, PW.putO, PW.free, PW.isBo_sh, PW.isBo_un, PW.isBo_ow, PW.isBo_rd, PW.wipe, PW.unwipe, PW.isLst, PW.putF, PW.iSeq, PW.iStr, PW.iRng1, PW.iRng2, PW.iRngD, PW.iEnum, PW.iZip, PW.items, PW.bNil, PW.bV, PW.bB, PW.bR, PW.kCall, PW.kMeth, PW.kMake, PW.oV, PW.oR, PW.oB, PW.isObj, PW.isCls, PW.wSh, PW.nFr, PW.wInO, PW.wNInO, PW.call, PW.lent, PW.lentB, PW.lentR, PW.lentOk, PW.back_nil, PW.back_v, PW.back_r, PW.back_b, PW.entry, PW.noX, PW.b2i, PW.nLc, PW.fDget, PW.fDin, PW.fDnin, PW.fDlen, PW.nDit, PW.nDic, PW.sDput, PW.putKv, PW.dKv, PW.fSortSet, PW.wMt, PW.fSIndex, PW.fSFind, PW.isStr, PW.isLst1, PW.nLc2, PW.elt1, PW.elt2, line_eq, hl]
  refine loop_ix _ (fun i ρ => ∃ kk, isBo kk = false ∧ ρ = [.sh (.str w), .sh (.str s), .sh (.str t), .sh (.str ((w.take i).map (xch s t))), kk]) ⟨.un, rfl, rfl⟩ ?_ ?_
  · rintro i x ρ K hx ⟨kk, hk, rfl⟩ hK
    rw [List.getElem?_map] at hx
    obtain ⟨c, hc, rfl⟩ := Option.map_eq_some_iff.mp hx
    have hm := ho c (List.mem_of_getElem? hc)
    have hlt : s.idxOf c < t.length := by rw [← hst]; exact List.idxOf_lt_length_of_mem hm
    simp [PW.sSeq, PW.sPass, PW.sBreak, PW.sCont, PW.sNever, PW.sExpr, PW.sSet, PW.sNew, PW.sPut, PW.sApp, PW.sFld, PW.sAsg, PW.sRet, PW.sRetN, PW.sRetF, PW.sRetO, PW.sIf, PW.sFor, PW.gN, PW.gT, PW.gUn, PW.wC, PW.wV, PW.rN, PW.rE, PW.peek, PW.wUn, PW.wBin, PW.wLk, PW.wLk2, PW.wLkR, PW.wLkB, PW.tB, PW.tTr, PW.truth, PW.tAnd, PW.tOr, PW.tNot, PW.tYes, PW.wAnd, PW.wOr, PW.wNot, PW.wIf, PW.wChain, PW.aNil, PW.aCons, PW.wTup, PW.nLst, PW.nCat, PW.nRep, PW.wPart, PW.fSl, PW.wSl, PW.nSl, PW.wSlL, PW.fAdd, PW.fSub, PW.fMul, PW.fFdiv, PW.fMod, PW.fPow, PW.fShl, PW.fShr, PW.fAnd, PW.fOr, PW.fXor, PW.fNeg, PW.fLt, PW.fLe, PW.fGt, PW.fGe, PW.fEq, PW.fNe, PW.fIsNone, PW.fIsntNone, PW.isNon, PW.fIn, PW.fNotIn, PW.fIx, PW.fLen, PW.fInt, PW.fAbs, PW.fMax2, PW.fMin2, PW.fTuple, PW.fList, PW.fMaxL, PW.fMinL, PW.fIs, PW.isTy, PW.fIsO, PW.fFld, PW.fCon, PW.fTab, PW.fInTab, PW.fNInTab, PW.plain, PW.plainL, PW.eqv, PW.eqvL, PW.small, PW.putO, PW.free, PW.isBo_sh, PW.isBo_un, PW.isBo_ow, PW.isBo_rd, PW.wipe, PW.unwipe, PW.isLst, PW.putF, PW.iSeq, PW.iStr, PW.iRng1, PW.iRng2, PW.iRngD, PW.iEnum, PW.iZip, PW.items, PW.bNil, PW.bV, PW.bB, PW.bR, PW.kCall, PW.kMeth, PW.kMake, PW.oV, PW.oR, PW.oB, PW.isObj, PW.isCls, PW.wSh, PW.nFr, PW.wInO, PW.wNInO, PW.call, PW.lent, PW.lentB, PW.lentR, PW.lentOk, PW.back_nil, PW.back_v, PW.back_r, PW.back_b, PW.entry, PW.noX, PW.b2i, PW.nLc, PW.fDget, PW.fDin, PW.fDnin, PW.fDlen, PW.nDit, PW.nDic, PW.sDput, PW.putKv, PW.dKv, PW.fSortSet, PW.wMt, PW.fSIndex, PW.fSFind, PW.isStr, PW.isLst1, PW.nLc2, PW.elt1, PW.elt2, line_eq, hk, hm, ht]
    rw [atI_nat, List.getElem?_eq_getElem hlt]
    simp [PW.sSeq, PW.sPass, PW.sBreak, PW.sCont, PW.sNever, PW.sExpr, PW.sSet, PW.sNew, PW.sPut, PW.sApp, PW.sFld, PW.sAsg, PW.sRet, PW.sRetN, PW.sRetF, PW.sRetO, PW.sIf, PW.sFor, PW.gN, PW.gT, PW.gUn, PW.wC, PW.wV, PW.rN, PW.rE, PW.peek, PW.wUn, PW.wBin, PW.wLk, PW.wLk2, PW.wLkR, PW.wLkB, PW.tB, PW.tTr, PW.truth, PW.tAnd, PW.tOr, PW.tNot, PW.tYes, PW.wAnd, PW.wOr, PW.wNot, PW.wIf, PW.wChain, PW.aNil, PW.aCons, PW.wTup, PW.nLst, PW.nCat, PW.nRep, PW.wPart, PW.fSl, PW.wSl, PW.nSl, PW.wSlL, PW.fAdd, PW.fSub, PW.fMul, PW.fFdiv, PW.fMod, PW.fPow, PW.fShl, PW.fShr, PW.fAnd, PW.fOr, PW.fXor, PW.fNeg, PW.fLt, PW.fLe, PW.fGt, PW.fGe, PW.fEq, PW.fNe, PW.fIsNone, PW.fIsntNone, PW.isNon, PW.fIn, PW.fNotIn, PW.fIx, PW.fLen, PW.fInt, PW.fAbs, PW.fMax2, PW.fMin2, PW.fTuple, PW.fList, PW.fMaxL, PW.fMinL, PW.fIs, PW.isTy, PW.fIsO, PW.fFld, PW.fCon, PW.fTab, PW.fInTab, PW.fNInTab, PW.plain, PW.plainL, PW.eqv, PW.eqvL, PW.small, PW.putO, PW.free, PW.isBo_sh, PW.isBo_un, PW.isBo_ow, PW.isBo_rd, PW.wipe, PW.unwipe, PW.isLst, PW.putF, PW.iSeq, PW.iStr, PW.iRng1, PW.iRng2, PW.iRngD, PW.iEnum, PW.iZip, PW.items, PW.bNil, PW.bV, PW.bB, PW.bR, PW.kCall, PW.kMeth, PW.kMake, PW.oV, PW.oR, PW.oB, PW.isObj, PW.isCls, PW.wSh, PW.nFr, PW.wInO, PW.wNInO, PW.call, PW.lent, PW.lentB, PW.lentR, PW.lentOk, PW.back_nil, PW.back_v, PW.back_r, PW.back_b, PW.entry, PW.noX, PW.b2i, PW.nLc, PW.fDget, PW.fDin, PW.fDnin, PW.fDlen, PW.nDit, PW.nDic, PW.sDput, PW.putKv, PW.dKv, PW.fSortSet, PW.wMt, PW.fSIndex, PW.fSFind, PW.isStr, PW.isLst1, PW.nLc2, PW.elt1, PW.elt2, line_eq]
    refine ⟨by omega, hK _ ⟨.sh (.str [c]), rfl, ?_⟩⟩
    rw [List.take_add_one, hc]
    have : xch s t c = t[s.idxOf c] := by unfold xch; rw [List.getD_eq_getElem?_getD, List.getElem?_eq_getElem hlt]; rfl
    simp [this]
  · rintro ρ ⟨kk, hk, rfl⟩
    simp [PW.sSeq, PW.sPass, PW.sBreak, PW.sCont, PW.sNever, PW.sExpr, PW.sSet, PW.sNew, PW.sPut, PW.sApp, PW.sFld, PW.sAsg, PW.sRet, PW.sRetN, PW.sRetF, PW.sRetO, PW.sIf, PW.sFor, PW.gN, PW.gT, PW.gUn, PW.wC, PW.wV, PW.rN, PW.rE, PW.peek, PW.wUn, PW.wBin, PW.wLk, PW.wLk2, PW.wLkR, PW.wLkB, PW.tB, PW.tTr, PW.truth, PW.tAnd, PW.tOr, PW.tNot, PW.tYes, PW.wAnd, PW.wOr, PW.wNot, PW.wIf, PW.wChain, PW.aNil, PW.aCons, PW.wTup, PW.nLst, PW.nCat, PW.nRep, PW.wPart, PW.fSl, PW.wSl, PW.nSl, PW.wSlL, PW.fAdd, PW.fSub, PW.fMul, PW.fFdiv, PW.fMod, PW.fPow, PW.fShl, PW.fShr, PW.fAnd, PW.fOr, PW.fXor, PW.fNeg, PW.fLt, PW.fLe, PW.fGt, PW.fGe, PW.fEq, PW.fNe, PW.fIsNone, PW.fIsntNone, PW.isNon, PW.fIn, PW.fNotIn, PW.fIx, PW.fLen, PW.fInt, PW.fAbs, PW.fMax2, PW.fMin2, PW.fTuple, PW.fList, PW.fMaxL, PW.fMinL, PW.fIs, PW.isTy, PW.fIsO, PW.fFld, PW.fCon, PW.fTab, PW.fInTab, PW.fNInTab, PW.plain, PW.plainL, PW.eqv, PW.eqvL, PW.small, PW.putO, PW.free, PW.isBo_sh, PW.isBo_un, PW.isBo_ow, PW.isBo_rd, PW.wipe, PW.unwipe, PW.isLst, PW.putF, PW.iSeq, PW.iStr, PW.iRng1, PW.iRng2, PW.iRngD, PW.iEnum, PW.iZip, PW.items, PW.bNil, PW.bV, PW.bB, PW.bR, PW.kCall, PW.kMeth, PW.kMake, PW.oV, PW.oR, PW.oB, PW.isObj, PW.isCls, PW.wSh, PW.nFr, PW.wInO, PW.wNInO, PW.call, PW.lent, PW.lentB, PW.lentR, PW.lentOk, PW.back_nil, PW.back_v, PW.back_r, PW.back_b, PW.entry, PW.noX, PW.b2i, PW.nLc, PW.fDget, PW.fDin, PW.fDnin, PW.fDlen, PW.nDit, PW.nDic, PW.sDput, PW.putKv, PW.dKv, PW.fSortSet, PW.wMt, PW.fSIndex, PW.fSFind, PW.isStr, PW.isLst1, PW.nLc2, PW.elt1, PW.elt2, line_eq]
    exact h _
end PW
end

section
set_option linter.all false
set_option maxHeartbeats 4000000
set_option maxRecDepth 100000
/-! G8: the law's parts. -/
namespace PW
open GM
theorem same_bl {q : Ret → List Sl → Prop} {e : Exn → List Sl → Prop} (b : Bool) (h : ∀ os, q (.sh (.bl true)) os) : φ__law_same [.sh (.bl b), .sh (.bl b)] q e := ⟨.bl b, trivial, rfl, h⟩
theorem same_bls {q : Ret → List Sl → Prop} {e : Exn → List Sl → Prop} (bs : List Bool) (hb : bs.length ≤ 1000) (h : ∀ os, q (.sh (.bl true)) os) : φ__law_same [.sh (.lst (bs.map .bl)), .sh (.lst (bs.map .bl))] q e :=
  ⟨.lst (bs.map .bl), ⟨by simp; omega, fun d hd => by obtain ⟨b, _, rfl⟩ := List.mem_map.mp hd; trivial⟩, rfl, h⟩
theorem repL_pw (w : List Nat) (n : Nat) : repL w n = pw w n := by
  induction n with
  | zero => rfl
  | succ n ih => rw [repL, pw, ih]
theorem bool_of {b c : Bool} {p : Prop} (h1 : b = true ↔ p) (h2 : c = true ↔ p) : b = c := by
  cases b <;> cases c <;> simp_all
theorem Over.rev {s w : List Nat} (h : Over s w) : Over s w.reverse := fun c hc => h c (List.mem_reverse.mp hc)
theorem Over.more {s w : List Nat} (h : Over s w) (t : List Nat) : Over (s ++ t) w := fun c hc => List.mem_append_left _ (h c hc)
theorem Over.pw {s w : List Nat} (h : Over s w) : ∀ n, Over s (pw w n)
  | 0 => over_nil s
  | n + 1 => over_app h (Over.pw h n)
theorem xch_mem {s t : List Nat} (h : s.length = t.length) {c : Nat} (hc : c ∈ s) : xch s t c ∈ t := by
  unfold xch
  have : s.idxOf c < t.length := by rw [← h]; exact List.idxOf_lt_length_of_mem hc
  rw [List.getD_eq_getElem?_getD, List.getElem?_eq_getElem this]; exact List.getElem_mem _
theorem xch_over {s t w : List Nat} (h : s.length = t.length) (hw : Over s w) : Over t (w.map (xch s t)) := fun c hc => by
  obtain ⟨d, hd, rfl⟩ := List.mem_map.mp hc
  exact xch_mem h (hw d hd)
theorem xch_inj {s t : List Nat} (h : s.length = t.length) (nd : t.Nodup) {c d : Nat} (hc : c ∈ s) (hd : d ∈ s) (e : xch s t c = xch s t d) : c = d := by
  have l1 : s.idxOf c < t.length := by rw [← h]; exact List.idxOf_lt_length_of_mem hc
  have l2 : s.idxOf d < t.length := by rw [← h]; exact List.idxOf_lt_length_of_mem hd
  unfold xch at e
  rw [List.getD_eq_getElem?_getD, List.getElem?_eq_getElem l1, List.getD_eq_getElem?_getD, List.getElem?_eq_getElem l2] at e
  have e2 : s.idxOf c = s.idxOf d := (List.getElem_inj nd).mp e
  have l3 : s.idxOf c < s.length := by omega
  have l4 : s.idxOf d < s.length := by omega
  have g1 : s[s.idxOf c]? = some c := by rw [List.getElem?_eq_getElem l3, List.getElem_idxOf]
  have g2 : s[s.idxOf d]? = some d := by rw [List.getElem?_eq_getElem l4, List.getElem_idxOf]
  rw [e2, g2] at g1
  exact (Option.some.inj g1).symm
theorem xch_al {s t u v : List Nat} {k : Nat} (h : s.length = t.length) (nd : t.Nodup) (hu : Over s u) (hv : Over s v) : Al k (u.map (xch s t)) (v.map (xch s t)) ↔ Al k u v :=
  E.map fun c hc d hd e => xch_inj h nd (hu c hc) (hv d hd) e
theorem Lets.nodup {s : List Nat} (h : Lets s) : s.Nodup := h.asc.imp fun h => Nat.ne_of_lt h
def φ__law_related : FSpec := fun ss q _ => ∃ s t u v r, Lets s ∧ s.length ≤ 2 ∧ (∀ c ∈ s, c ≤ 120) ∧ Lets t ∧ t.length = s.length ∧ Over s u ∧ Over s v ∧ u.length ≤ 50 ∧ v.length ≤ 50 ∧ r ≤ 3 ∧ ss = [.sh (.str s), .sh (.str t), .sh (.str u), .sh (.str v), .sh (natD r)] ∧ ∀ os, q (.sh (.bl true)) os
theorem len__law_related : ∀ ss q e, φ__law_related ss q e → ss.length = 5 := by rintro ss q e ⟨s, t, u, v, r, _, _, _, _, _, _, _, _, _, _, rfl, _⟩; rfl
def w__law_related : PW.WS :=
 (PW.sSeq (PW.sSet 5 (PW.wSh (PW.kCall φ_alike [] (PW.bV (PW.wV 0) (PW.bV (PW.wV 2) (PW.bV (PW.wV 3) (PW.bV (PW.wV 4) PW.bNil)))))))
 (PW.sSeq (PW.sSet 6 (PW.wSh (PW.kCall φ_alike [] (PW.bV (PW.wV 0) (PW.bV (PW.wSh (PW.kCall φ__law_turned [] (PW.bV (PW.wV 2) PW.bNil))) (PW.bV (PW.wSh (PW.kCall φ__law_turned [] (PW.bV (PW.wV 3) PW.bNil))) (PW.bV (PW.wV 4) PW.bNil)))))))
 (PW.sSeq (PW.sSet 7 (PW.wSh (PW.kCall φ_alike [] (PW.bV (PW.wBin PW.fAdd (PW.wV 0) (PW.wC (.str [122]))) (PW.bV (PW.wV 2) (PW.bV (PW.wV 3) (PW.bV (PW.wV 4) PW.bNil)))))))
 (PW.sSeq (PW.sSet 8 (PW.nLst (PW.aCons (PW.wSh (PW.kCall φ__law_exchanged [] (PW.bV (PW.wV 2) (PW.bV (PW.wV 0) (PW.bV (PW.wV 1) PW.bNil))))) (PW.aCons (PW.wSh (PW.kCall φ__law_exchanged [] (PW.bV (PW.wV 3) (PW.bV (PW.wV 0) (PW.bV (PW.wV 1) PW.bNil))))) PW.aNil))))
 (PW.sSeq (PW.sSet 9 (PW.wSh (PW.kCall φ_alike [] (PW.bV (PW.wV 1) (PW.bV (PW.wLk2 PW.fIx (PW.rN 8) (PW.wC (.int 0))) (PW.bV (PW.wLk2 PW.fIx (PW.rN 8) (PW.wC (.int 1))) (PW.bV (PW.wV 4) PW.bNil)))))))
 (PW.sSeq (PW.sSet 10 (PW.wSh (PW.kCall φ__law_turned [] (PW.bV (PW.wV 1) PW.bNil))))
 (PW.sSeq (PW.sSet 8 (PW.nLst (PW.aCons (PW.wSh (PW.kCall φ__law_exchanged [] (PW.bV (PW.wV 2) (PW.bV (PW.wV 0) (PW.bV (PW.wV 10) PW.bNil))))) (PW.aCons (PW.wSh (PW.kCall φ__law_exchanged [] (PW.bV (PW.wV 3) (PW.bV (PW.wV 0) (PW.bV (PW.wV 10) PW.bNil))))) PW.aNil))))
 (PW.sRet (PW.wSh (PW.kCall φ__law_same [] (PW.bV (PW.nLst (PW.aCons (PW.wV 6) (PW.aCons (PW.wV 7) (PW.aCons (PW.wV 9) (PW.aCons (PW.wSh (PW.kCall φ_alike [] (PW.bV (PW.wV 1) (PW.bV (PW.wLk2 PW.fIx (PW.rN 8) (PW.wC (.int 0))) (PW.bV (PW.wLk2 PW.fIx (PW.rN 8) (PW.wC (.int 1))) (PW.bV (PW.wV 4) PW.bNil)))))) PW.aNil))))) (PW.bV (PW.nLst (PW.aCons (PW.wV 5) (PW.aCons (PW.wV 5) (PW.aCons (PW.wV 5) (PW.aCons (PW.wV 5) PW.aNil))))) PW.bNil))))))))))))

theorem hs__law_related : Does φ__law_related 11 w__law_related := by
  rintro ss q e ⟨s, t, u, v, r, hs, hs2, hs3, ht, hts, hu, hv, lu, lv, hr, rfl, h⟩
  have hz : Lets (s ++ [122]) := ⟨by simp, by simp; omega, fun c hc => by
    rcases List.mem_append.mp hc with q | q
    · exact hs.small c q
    · simp at q; omega, by
    rw [List.pairwise_append]
    refine ⟨hs.asc, by simp, fun a ha b hb => ?_⟩
    simp at hb; subst hb; have := hs3 a ha; omega⟩
  simp [w__law_related, PW.sSeq, PW.sPass, PW.sBreak, PW.sCont, PW.sNever, PW.sExpr, PW.sSet, PW.sNew, PW.sPut, PW.sApp, PW.sFld, PW.sAsg, PW.sRet, PW.sRetN, PW.sRetF, PW.sRetO, PW.sIf, PW.sFor, PW.gN, PW.gT, PW.gUn, PW.wC, PW.wV, PW.rN, PW.rE, PW.peek, PW.wUn, PW.wBin, PW.wLk, PW.wLk2, PW.wLkR, PW.wLkB, PW.tB, PW.tTr, PW.truth, PW.tAnd, PW.tOr, PW.tNot, PW.tYes, PW.wAnd, PW.wOr, PW.wNot, PW.wIf, PW.wChain, PW.aNil, PW.aCons, PW.wTup, PW.nLst, PW.nCat, PW.nRep, PW.wPart, PW.fSl, PW.wSl, PW.nSl, PW.wSlL, PW.fAdd, PW.fSub, PW.fMul, PW.fFdiv, PW.fMod, PW.fPow, PW.fShl, PW.fShr, PW.fAnd, PW.fOr, PW.fXor, PW.fNeg, PW.fLt, PW.fLe, PW.fGt, PW.fGe, PW.fEq, PW.fNe, PW.fIsNone, PW.fIsntNone, PW.isNon, PW.fIn, PW.fNotIn, PW.fIx, PW.fLen, PW.fInt, PW.fAbs, PW.fMax2, PW.fMin2, PW.fTuple, PW.fList, PW.fMaxL, PW.fMinL, PW.fIs, PW.isTy, PW.fIsO, PW.fFld, PW.fCon, PW.fTab, PW.fInTab, PW.fNInTab, PW.plain, PW.plainL, PW.eqv, PW.eqvL, PW.small, PW.putO, PW.free, PW.isBo_sh, PW.isBo_un, PW.isBo_ow, PW.isBo_rd, PW.wipe, PW.unwipe, PW.isLst, PW.putF, PW.iSeq, PW.iStr, PW.iRng1, PW.iRng2, PW.iRngD, PW.iEnum, PW.iZip, PW.items, PW.bNil, PW.bV, PW.bB, PW.bR, PW.kCall, PW.kMeth, PW.kMake, PW.oV, PW.oR, PW.oB, PW.isObj, PW.isCls, PW.wSh, PW.nFr, PW.wInO, PW.wNInO, PW.call, PW.lent, PW.lentB, PW.lentR, PW.lentOk, PW.back_nil, PW.back_v, PW.back_r, PW.back_b, PW.entry, PW.noX, PW.b2i, PW.nLc, PW.fDget, PW.fDin, PW.fDnin, PW.fDlen, PW.nDit, PW.nDic, PW.sDput, PW.putKv, PW.dKv, PW.fSortSet, PW.wMt, PW.fSIndex, PW.fSFind, PW.isStr, PW.isLst1, PW.nLc2, PW.elt1, PW.elt2, line_eq]
  refine ⟨s, u, v, r, hs, hu, hv, lu, lv, hr, rfl, fun b os hb => ?_⟩
  simp [PW.sSeq, PW.sPass, PW.sBreak, PW.sCont, PW.sNever, PW.sExpr, PW.sSet, PW.sNew, PW.sPut, PW.sApp, PW.sFld, PW.sAsg, PW.sRet, PW.sRetN, PW.sRetF, PW.sRetO, PW.sIf, PW.sFor, PW.gN, PW.gT, PW.gUn, PW.wC, PW.wV, PW.rN, PW.rE, PW.peek, PW.wUn, PW.wBin, PW.wLk, PW.wLk2, PW.wLkR, PW.wLkB, PW.tB, PW.tTr, PW.truth, PW.tAnd, PW.tOr, PW.tNot, PW.tYes, PW.wAnd, PW.wOr, PW.wNot, PW.wIf, PW.wChain, PW.aNil, PW.aCons, PW.wTup, PW.nLst, PW.nCat, PW.nRep, PW.wPart, PW.fSl, PW.wSl, PW.nSl, PW.wSlL, PW.fAdd, PW.fSub, PW.fMul, PW.fFdiv, PW.fMod, PW.fPow, PW.fShl, PW.fShr, PW.fAnd, PW.fOr, PW.fXor, PW.fNeg, PW.fLt, PW.fLe, PW.fGt, PW.fGe, PW.fEq, PW.fNe, PW.fIsNone, PW.fIsntNone, PW.isNon, PW.fIn, PW.fNotIn, PW.fIx, PW.fLen, PW.fInt, PW.fAbs, PW.fMax2, PW.fMin2, PW.fTuple, PW.fList, PW.fMaxL, PW.fMinL, PW.fIs, PW.isTy, PW.fIsO, PW.fFld, PW.fCon, PW.fTab, PW.fInTab, PW.fNInTab, PW.plain, PW.plainL, PW.eqv, PW.eqvL, PW.small, PW.putO, PW.free, PW.isBo_sh, PW.isBo_un, PW.isBo_ow, PW.isBo_rd, PW.wipe, PW.unwipe, PW.isLst, PW.putF, PW.iSeq, PW.iStr, PW.iRng1, PW.iRng2, PW.iRngD, PW.iEnum, PW.iZip, PW.items, PW.bNil, PW.bV, PW.bB, PW.bR, PW.kCall, PW.kMeth, PW.kMake, PW.oV, PW.oR, PW.oB, PW.isObj, PW.isCls, PW.wSh, PW.nFr, PW.wInO, PW.wNInO, PW.call, PW.lent, PW.lentB, PW.lentR, PW.lentOk, PW.back_nil, PW.back_v, PW.back_r, PW.back_b, PW.entry, PW.noX, PW.b2i, PW.nLc, PW.fDget, PW.fDin, PW.fDnin, PW.fDlen, PW.nDit, PW.nDic, PW.sDput, PW.putKv, PW.dKv, PW.fSortSet, PW.wMt, PW.fSIndex, PW.fSFind, PW.isStr, PW.isLst1, PW.nLc2, PW.elt1, PW.elt2, line_eq]
  refine ⟨u, by omega, rfl, fun os => ?_⟩
  simp [PW.sSeq, PW.sPass, PW.sBreak, PW.sCont, PW.sNever, PW.sExpr, PW.sSet, PW.sNew, PW.sPut, PW.sApp, PW.sFld, PW.sAsg, PW.sRet, PW.sRetN, PW.sRetF, PW.sRetO, PW.sIf, PW.sFor, PW.gN, PW.gT, PW.gUn, PW.wC, PW.wV, PW.rN, PW.rE, PW.peek, PW.wUn, PW.wBin, PW.wLk, PW.wLk2, PW.wLkR, PW.wLkB, PW.tB, PW.tTr, PW.truth, PW.tAnd, PW.tOr, PW.tNot, PW.tYes, PW.wAnd, PW.wOr, PW.wNot, PW.wIf, PW.wChain, PW.aNil, PW.aCons, PW.wTup, PW.nLst, PW.nCat, PW.nRep, PW.wPart, PW.fSl, PW.wSl, PW.nSl, PW.wSlL, PW.fAdd, PW.fSub, PW.fMul, PW.fFdiv, PW.fMod, PW.fPow, PW.fShl, PW.fShr, PW.fAnd, PW.fOr, PW.fXor, PW.fNeg, PW.fLt, PW.fLe, PW.fGt, PW.fGe, PW.fEq, PW.fNe, PW.fIsNone, PW.fIsntNone, PW.isNon, PW.fIn, PW.fNotIn, PW.fIx, PW.fLen, PW.fInt, PW.fAbs, PW.fMax2, PW.fMin2, PW.fTuple, PW.fList, PW.fMaxL, PW.fMinL, PW.fIs, PW.isTy, PW.fIsO, PW.fFld, PW.fCon, PW.fTab, PW.fInTab, PW.fNInTab, PW.plain, PW.plainL, PW.eqv, PW.eqvL, PW.small, PW.putO, PW.free, PW.isBo_sh, PW.isBo_un, PW.isBo_ow, PW.isBo_rd, PW.wipe, PW.unwipe, PW.isLst, PW.putF, PW.iSeq, PW.iStr, PW.iRng1, PW.iRng2, PW.iRngD, PW.iEnum, PW.iZip, PW.items, PW.bNil, PW.bV, PW.bB, PW.bR, PW.kCall, PW.kMeth, PW.kMake, PW.oV, PW.oR, PW.oB, PW.isObj, PW.isCls, PW.wSh, PW.nFr, PW.wInO, PW.wNInO, PW.call, PW.lent, PW.lentB, PW.lentR, PW.lentOk, PW.back_nil, PW.back_v, PW.back_r, PW.back_b, PW.entry, PW.noX, PW.b2i, PW.nLc, PW.fDget, PW.fDin, PW.fDnin, PW.fDlen, PW.nDit, PW.nDic, PW.sDput, PW.putKv, PW.dKv, PW.fSortSet, PW.wMt, PW.fSIndex, PW.fSFind, PW.isStr, PW.isLst1, PW.nLc2, PW.elt1, PW.elt2, line_eq]
  refine ⟨v, by omega, rfl, fun os => ?_⟩
  simp [PW.sSeq, PW.sPass, PW.sBreak, PW.sCont, PW.sNever, PW.sExpr, PW.sSet, PW.sNew, PW.sPut, PW.sApp, PW.sFld, PW.sAsg, PW.sRet, PW.sRetN, PW.sRetF, PW.sRetO, PW.sIf, PW.sFor, PW.gN, PW.gT, PW.gUn, PW.wC, PW.wV, PW.rN, PW.rE, PW.peek, PW.wUn, PW.wBin, PW.wLk, PW.wLk2, PW.wLkR, PW.wLkB, PW.tB, PW.tTr, PW.truth, PW.tAnd, PW.tOr, PW.tNot, PW.tYes, PW.wAnd, PW.wOr, PW.wNot, PW.wIf, PW.wChain, PW.aNil, PW.aCons, PW.wTup, PW.nLst, PW.nCat, PW.nRep, PW.wPart, PW.fSl, PW.wSl, PW.nSl, PW.wSlL, PW.fAdd, PW.fSub, PW.fMul, PW.fFdiv, PW.fMod, PW.fPow, PW.fShl, PW.fShr, PW.fAnd, PW.fOr, PW.fXor, PW.fNeg, PW.fLt, PW.fLe, PW.fGt, PW.fGe, PW.fEq, PW.fNe, PW.fIsNone, PW.fIsntNone, PW.isNon, PW.fIn, PW.fNotIn, PW.fIx, PW.fLen, PW.fInt, PW.fAbs, PW.fMax2, PW.fMin2, PW.fTuple, PW.fList, PW.fMaxL, PW.fMinL, PW.fIs, PW.isTy, PW.fIsO, PW.fFld, PW.fCon, PW.fTab, PW.fInTab, PW.fNInTab, PW.plain, PW.plainL, PW.eqv, PW.eqvL, PW.small, PW.putO, PW.free, PW.isBo_sh, PW.isBo_un, PW.isBo_ow, PW.isBo_rd, PW.wipe, PW.unwipe, PW.isLst, PW.putF, PW.iSeq, PW.iStr, PW.iRng1, PW.iRng2, PW.iRngD, PW.iEnum, PW.iZip, PW.items, PW.bNil, PW.bV, PW.bB, PW.bR, PW.kCall, PW.kMeth, PW.kMake, PW.oV, PW.oR, PW.oB, PW.isObj, PW.isCls, PW.wSh, PW.nFr, PW.wInO, PW.wNInO, PW.call, PW.lent, PW.lentB, PW.lentR, PW.lentOk, PW.back_nil, PW.back_v, PW.back_r, PW.back_b, PW.entry, PW.noX, PW.b2i, PW.nLc, PW.fDget, PW.fDin, PW.fDnin, PW.fDlen, PW.nDit, PW.nDic, PW.sDput, PW.putKv, PW.dKv, PW.fSortSet, PW.wMt, PW.fSIndex, PW.fSFind, PW.isStr, PW.isLst1, PW.nLc2, PW.elt1, PW.elt2, line_eq]
  refine ⟨s, u.reverse, v.reverse, r, hs, hu.rev, hv.rev, by simpa using lu, by simpa using lv, hr, rfl, fun b2 os hb2 => ?_⟩
  simp [PW.sSeq, PW.sPass, PW.sBreak, PW.sCont, PW.sNever, PW.sExpr, PW.sSet, PW.sNew, PW.sPut, PW.sApp, PW.sFld, PW.sAsg, PW.sRet, PW.sRetN, PW.sRetF, PW.sRetO, PW.sIf, PW.sFor, PW.gN, PW.gT, PW.gUn, PW.wC, PW.wV, PW.rN, PW.rE, PW.peek, PW.wUn, PW.wBin, PW.wLk, PW.wLk2, PW.wLkR, PW.wLkB, PW.tB, PW.tTr, PW.truth, PW.tAnd, PW.tOr, PW.tNot, PW.tYes, PW.wAnd, PW.wOr, PW.wNot, PW.wIf, PW.wChain, PW.aNil, PW.aCons, PW.wTup, PW.nLst, PW.nCat, PW.nRep, PW.wPart, PW.fSl, PW.wSl, PW.nSl, PW.wSlL, PW.fAdd, PW.fSub, PW.fMul, PW.fFdiv, PW.fMod, PW.fPow, PW.fShl, PW.fShr, PW.fAnd, PW.fOr, PW.fXor, PW.fNeg, PW.fLt, PW.fLe, PW.fGt, PW.fGe, PW.fEq, PW.fNe, PW.fIsNone, PW.fIsntNone, PW.isNon, PW.fIn, PW.fNotIn, PW.fIx, PW.fLen, PW.fInt, PW.fAbs, PW.fMax2, PW.fMin2, PW.fTuple, PW.fList, PW.fMaxL, PW.fMinL, PW.fIs, PW.isTy, PW.fIsO, PW.fFld, PW.fCon, PW.fTab, PW.fInTab, PW.fNInTab, PW.plain, PW.plainL, PW.eqv, PW.eqvL, PW.small, PW.putO, PW.free, PW.isBo_sh, PW.isBo_un, PW.isBo_ow, PW.isBo_rd, PW.wipe, PW.unwipe, PW.isLst, PW.putF, PW.iSeq, PW.iStr, PW.iRng1, PW.iRng2, PW.iRngD, PW.iEnum, PW.iZip, PW.items, PW.bNil, PW.bV, PW.bB, PW.bR, PW.kCall, PW.kMeth, PW.kMake, PW.oV, PW.oR, PW.oB, PW.isObj, PW.isCls, PW.wSh, PW.nFr, PW.wInO, PW.wNInO, PW.call, PW.lent, PW.lentB, PW.lentR, PW.lentOk, PW.back_nil, PW.back_v, PW.back_r, PW.back_b, PW.entry, PW.noX, PW.b2i, PW.nLc, PW.fDget, PW.fDin, PW.fDnin, PW.fDlen, PW.nDit, PW.nDic, PW.sDput, PW.putKv, PW.dKv, PW.fSortSet, PW.wMt, PW.fSIndex, PW.fSFind, PW.isStr, PW.isLst1, PW.nLc2, PW.elt1, PW.elt2, line_eq]
  refine ⟨by omega, s ++ [122], u, v, r, hz, hu.more _, hv.more _, lu, lv, hr, rfl, fun b3 os hb3 => ?_⟩
  simp [PW.sSeq, PW.sPass, PW.sBreak, PW.sCont, PW.sNever, PW.sExpr, PW.sSet, PW.sNew, PW.sPut, PW.sApp, PW.sFld, PW.sAsg, PW.sRet, PW.sRetN, PW.sRetF, PW.sRetO, PW.sIf, PW.sFor, PW.gN, PW.gT, PW.gUn, PW.wC, PW.wV, PW.rN, PW.rE, PW.peek, PW.wUn, PW.wBin, PW.wLk, PW.wLk2, PW.wLkR, PW.wLkB, PW.tB, PW.tTr, PW.truth, PW.tAnd, PW.tOr, PW.tNot, PW.tYes, PW.wAnd, PW.wOr, PW.wNot, PW.wIf, PW.wChain, PW.aNil, PW.aCons, PW.wTup, PW.nLst, PW.nCat, PW.nRep, PW.wPart, PW.fSl, PW.wSl, PW.nSl, PW.wSlL, PW.fAdd, PW.fSub, PW.fMul, PW.fFdiv, PW.fMod, PW.fPow, PW.fShl, PW.fShr, PW.fAnd, PW.fOr, PW.fXor, PW.fNeg, PW.fLt, PW.fLe, PW.fGt, PW.fGe, PW.fEq, PW.fNe, PW.fIsNone, PW.fIsntNone, PW.isNon, PW.fIn, PW.fNotIn, PW.fIx, PW.fLen, PW.fInt, PW.fAbs, PW.fMax2, PW.fMin2, PW.fTuple, PW.fList, PW.fMaxL, PW.fMinL, PW.fIs, PW.isTy, PW.fIsO, PW.fFld, PW.fCon, PW.fTab, PW.fInTab, PW.fNInTab, PW.plain, PW.plainL, PW.eqv, PW.eqvL, PW.small, PW.putO, PW.free, PW.isBo_sh, PW.isBo_un, PW.isBo_ow, PW.isBo_rd, PW.wipe, PW.unwipe, PW.isLst, PW.putF, PW.iSeq, PW.iStr, PW.iRng1, PW.iRng2, PW.iRngD, PW.iEnum, PW.iZip, PW.items, PW.bNil, PW.bV, PW.bB, PW.bR, PW.kCall, PW.kMeth, PW.kMake, PW.oV, PW.oR, PW.oB, PW.isObj, PW.isCls, PW.wSh, PW.nFr, PW.wInO, PW.wNInO, PW.call, PW.lent, PW.lentB, PW.lentR, PW.lentOk, PW.back_nil, PW.back_v, PW.back_r, PW.back_b, PW.entry, PW.noX, PW.b2i, PW.nLc, PW.fDget, PW.fDin, PW.fDnin, PW.fDlen, PW.nDit, PW.nDic, PW.sDput, PW.putKv, PW.dKv, PW.fSortSet, PW.wMt, PW.fSIndex, PW.fSFind, PW.isStr, PW.isLst1, PW.nLc2, PW.elt1, PW.elt2, line_eq]
  refine ⟨u, s, t, hu, hts.symm, by omega, by omega, rfl, fun os => ?_⟩
  simp [PW.sSeq, PW.sPass, PW.sBreak, PW.sCont, PW.sNever, PW.sExpr, PW.sSet, PW.sNew, PW.sPut, PW.sApp, PW.sFld, PW.sAsg, PW.sRet, PW.sRetN, PW.sRetF, PW.sRetO, PW.sIf, PW.sFor, PW.gN, PW.gT, PW.gUn, PW.wC, PW.wV, PW.rN, PW.rE, PW.peek, PW.wUn, PW.wBin, PW.wLk, PW.wLk2, PW.wLkR, PW.wLkB, PW.tB, PW.tTr, PW.truth, PW.tAnd, PW.tOr, PW.tNot, PW.tYes, PW.wAnd, PW.wOr, PW.wNot, PW.wIf, PW.wChain, PW.aNil, PW.aCons, PW.wTup, PW.nLst, PW.nCat, PW.nRep, PW.wPart, PW.fSl, PW.wSl, PW.nSl, PW.wSlL, PW.fAdd, PW.fSub, PW.fMul, PW.fFdiv, PW.fMod, PW.fPow, PW.fShl, PW.fShr, PW.fAnd, PW.fOr, PW.fXor, PW.fNeg, PW.fLt, PW.fLe, PW.fGt, PW.fGe, PW.fEq, PW.fNe, PW.fIsNone, PW.fIsntNone, PW.isNon, PW.fIn, PW.fNotIn, PW.fIx, PW.fLen, PW.fInt, PW.fAbs, PW.fMax2, PW.fMin2, PW.fTuple, PW.fList, PW.fMaxL, PW.fMinL, PW.fIs, PW.isTy, PW.fIsO, PW.fFld, PW.fCon, PW.fTab, PW.fInTab, PW.fNInTab, PW.plain, PW.plainL, PW.eqv, PW.eqvL, PW.small, PW.putO, PW.free, PW.isBo_sh, PW.isBo_un, PW.isBo_ow, PW.isBo_rd, PW.wipe, PW.unwipe, PW.isLst, PW.putF, PW.iSeq, PW.iStr, PW.iRng1, PW.iRng2, PW.iRngD, PW.iEnum, PW.iZip, PW.items, PW.bNil, PW.bV, PW.bB, PW.bR, PW.kCall, PW.kMeth, PW.kMake, PW.oV, PW.oR, PW.oB, PW.isObj, PW.isCls, PW.wSh, PW.nFr, PW.wInO, PW.wNInO, PW.call, PW.lent, PW.lentB, PW.lentR, PW.lentOk, PW.back_nil, PW.back_v, PW.back_r, PW.back_b, PW.entry, PW.noX, PW.b2i, PW.nLc, PW.fDget, PW.fDin, PW.fDnin, PW.fDlen, PW.nDit, PW.nDic, PW.sDput, PW.putKv, PW.dKv, PW.fSortSet, PW.wMt, PW.fSIndex, PW.fSFind, PW.isStr, PW.isLst1, PW.nLc2, PW.elt1, PW.elt2, line_eq]
  refine ⟨v, s, t, hv, hts.symm, by omega, by omega, rfl, fun os => ?_⟩
  simp [PW.sSeq, PW.sPass, PW.sBreak, PW.sCont, PW.sNever, PW.sExpr, PW.sSet, PW.sNew, PW.sPut, PW.sApp, PW.sFld, PW.sAsg, PW.sRet, PW.sRetN, PW.sRetF, PW.sRetO, PW.sIf, PW.sFor, PW.gN, PW.gT, PW.gUn, PW.wC, PW.wV, PW.rN, PW.rE, PW.peek, PW.wUn, PW.wBin, PW.wLk, PW.wLk2, PW.wLkR, PW.wLkB, PW.tB, PW.tTr, PW.truth, PW.tAnd, PW.tOr, PW.tNot, PW.tYes, PW.wAnd, PW.wOr, PW.wNot, PW.wIf, PW.wChain, PW.aNil, PW.aCons, PW.wTup, PW.nLst, PW.nCat, PW.nRep, PW.wPart, PW.fSl, PW.wSl, PW.nSl, PW.wSlL, PW.fAdd, PW.fSub, PW.fMul, PW.fFdiv, PW.fMod, PW.fPow, PW.fShl, PW.fShr, PW.fAnd, PW.fOr, PW.fXor, PW.fNeg, PW.fLt, PW.fLe, PW.fGt, PW.fGe, PW.fEq, PW.fNe, PW.fIsNone, PW.fIsntNone, PW.isNon, PW.fIn, PW.fNotIn, PW.fIx, PW.fLen, PW.fInt, PW.fAbs, PW.fMax2, PW.fMin2, PW.fTuple, PW.fList, PW.fMaxL, PW.fMinL, PW.fIs, PW.isTy, PW.fIsO, PW.fFld, PW.fCon, PW.fTab, PW.fInTab, PW.fNInTab, PW.plain, PW.plainL, PW.eqv, PW.eqvL, PW.small, PW.putO, PW.free, PW.isBo_sh, PW.isBo_un, PW.isBo_ow, PW.isBo_rd, PW.wipe, PW.unwipe, PW.isLst, PW.putF, PW.iSeq, PW.iStr, PW.iRng1, PW.iRng2, PW.iRngD, PW.iEnum, PW.iZip, PW.items, PW.bNil, PW.bV, PW.bB, PW.bR, PW.kCall, PW.kMeth, PW.kMake, PW.oV, PW.oR, PW.oB, PW.isObj, PW.isCls, PW.wSh, PW.nFr, PW.wInO, PW.wNInO, PW.call, PW.lent, PW.lentB, PW.lentR, PW.lentOk, PW.back_nil, PW.back_v, PW.back_r, PW.back_b, PW.entry, PW.noX, PW.b2i, PW.nLc, PW.fDget, PW.fDin, PW.fDnin, PW.fDlen, PW.nDit, PW.nDic, PW.sDput, PW.putKv, PW.dKv, PW.fSortSet, PW.wMt, PW.fSIndex, PW.fSFind, PW.isStr, PW.isLst1, PW.nLc2, PW.elt1, PW.elt2, line_eq, PW.atI, PW.ixN]
  refine ⟨t, u.map (xch s t), v.map (xch s t), r, ht, xch_over hts.symm hu, xch_over hts.symm hv, by simpa using lu, by simpa using lv, hr, rfl, fun b4 os hb4 => ?_⟩
  simp [PW.sSeq, PW.sPass, PW.sBreak, PW.sCont, PW.sNever, PW.sExpr, PW.sSet, PW.sNew, PW.sPut, PW.sApp, PW.sFld, PW.sAsg, PW.sRet, PW.sRetN, PW.sRetF, PW.sRetO, PW.sIf, PW.sFor, PW.gN, PW.gT, PW.gUn, PW.wC, PW.wV, PW.rN, PW.rE, PW.peek, PW.wUn, PW.wBin, PW.wLk, PW.wLk2, PW.wLkR, PW.wLkB, PW.tB, PW.tTr, PW.truth, PW.tAnd, PW.tOr, PW.tNot, PW.tYes, PW.wAnd, PW.wOr, PW.wNot, PW.wIf, PW.wChain, PW.aNil, PW.aCons, PW.wTup, PW.nLst, PW.nCat, PW.nRep, PW.wPart, PW.fSl, PW.wSl, PW.nSl, PW.wSlL, PW.fAdd, PW.fSub, PW.fMul, PW.fFdiv, PW.fMod, PW.fPow, PW.fShl, PW.fShr, PW.fAnd, PW.fOr, PW.fXor, PW.fNeg, PW.fLt, PW.fLe, PW.fGt, PW.fGe, PW.fEq, PW.fNe, PW.fIsNone, PW.fIsntNone, PW.isNon, PW.fIn, PW.fNotIn, PW.fIx, PW.fLen, PW.fInt, PW.fAbs, PW.fMax2, PW.fMin2, PW.fTuple, PW.fList, PW.fMaxL, PW.fMinL, PW.fIs, PW.isTy, PW.fIsO, PW.fFld, PW.fCon, PW.fTab, PW.fInTab, PW.fNInTab, PW.plain, PW.plainL, PW.eqv, PW.eqvL, PW.small, PW.putO, PW.free, PW.isBo_sh, PW.isBo_un, PW.isBo_ow, PW.isBo_rd, PW.wipe, PW.unwipe, PW.isLst, PW.putF, PW.iSeq, PW.iStr, PW.iRng1, PW.iRng2, PW.iRngD, PW.iEnum, PW.iZip, PW.items, PW.bNil, PW.bV, PW.bB, PW.bR, PW.kCall, PW.kMeth, PW.kMake, PW.oV, PW.oR, PW.oB, PW.isObj, PW.isCls, PW.wSh, PW.nFr, PW.wInO, PW.wNInO, PW.call, PW.lent, PW.lentB, PW.lentR, PW.lentOk, PW.back_nil, PW.back_v, PW.back_r, PW.back_b, PW.entry, PW.noX, PW.b2i, PW.nLc, PW.fDget, PW.fDin, PW.fDnin, PW.fDlen, PW.nDit, PW.nDic, PW.sDput, PW.putKv, PW.dKv, PW.fSortSet, PW.wMt, PW.fSIndex, PW.fSFind, PW.isStr, PW.isLst1, PW.nLc2, PW.elt1, PW.elt2, line_eq]
  have lt : t.length ≤ 3 := ht.le
  refine ⟨t, by omega, rfl, fun os => ?_⟩
  simp [PW.sSeq, PW.sPass, PW.sBreak, PW.sCont, PW.sNever, PW.sExpr, PW.sSet, PW.sNew, PW.sPut, PW.sApp, PW.sFld, PW.sAsg, PW.sRet, PW.sRetN, PW.sRetF, PW.sRetO, PW.sIf, PW.sFor, PW.gN, PW.gT, PW.gUn, PW.wC, PW.wV, PW.rN, PW.rE, PW.peek, PW.wUn, PW.wBin, PW.wLk, PW.wLk2, PW.wLkR, PW.wLkB, PW.tB, PW.tTr, PW.truth, PW.tAnd, PW.tOr, PW.tNot, PW.tYes, PW.wAnd, PW.wOr, PW.wNot, PW.wIf, PW.wChain, PW.aNil, PW.aCons, PW.wTup, PW.nLst, PW.nCat, PW.nRep, PW.wPart, PW.fSl, PW.wSl, PW.nSl, PW.wSlL, PW.fAdd, PW.fSub, PW.fMul, PW.fFdiv, PW.fMod, PW.fPow, PW.fShl, PW.fShr, PW.fAnd, PW.fOr, PW.fXor, PW.fNeg, PW.fLt, PW.fLe, PW.fGt, PW.fGe, PW.fEq, PW.fNe, PW.fIsNone, PW.fIsntNone, PW.isNon, PW.fIn, PW.fNotIn, PW.fIx, PW.fLen, PW.fInt, PW.fAbs, PW.fMax2, PW.fMin2, PW.fTuple, PW.fList, PW.fMaxL, PW.fMinL, PW.fIs, PW.isTy, PW.fIsO, PW.fFld, PW.fCon, PW.fTab, PW.fInTab, PW.fNInTab, PW.plain, PW.plainL, PW.eqv, PW.eqvL, PW.small, PW.putO, PW.free, PW.isBo_sh, PW.isBo_un, PW.isBo_ow, PW.isBo_rd, PW.wipe, PW.unwipe, PW.isLst, PW.putF, PW.iSeq, PW.iStr, PW.iRng1, PW.iRng2, PW.iRngD, PW.iEnum, PW.iZip, PW.items, PW.bNil, PW.bV, PW.bB, PW.bR, PW.kCall, PW.kMeth, PW.kMake, PW.oV, PW.oR, PW.oB, PW.isObj, PW.isCls, PW.wSh, PW.nFr, PW.wInO, PW.wNInO, PW.call, PW.lent, PW.lentB, PW.lentR, PW.lentOk, PW.back_nil, PW.back_v, PW.back_r, PW.back_b, PW.entry, PW.noX, PW.b2i, PW.nLc, PW.fDget, PW.fDin, PW.fDnin, PW.fDlen, PW.nDit, PW.nDic, PW.sDput, PW.putKv, PW.dKv, PW.fSortSet, PW.wMt, PW.fSIndex, PW.fSFind, PW.isStr, PW.isLst1, PW.nLc2, PW.elt1, PW.elt2, line_eq]
  have hrl : s.length = t.reverse.length := by simp [hts]
  refine ⟨u, s, t.reverse, hu, hrl, by omega, by omega, rfl, fun os => ?_⟩
  simp [PW.sSeq, PW.sPass, PW.sBreak, PW.sCont, PW.sNever, PW.sExpr, PW.sSet, PW.sNew, PW.sPut, PW.sApp, PW.sFld, PW.sAsg, PW.sRet, PW.sRetN, PW.sRetF, PW.sRetO, PW.sIf, PW.sFor, PW.gN, PW.gT, PW.gUn, PW.wC, PW.wV, PW.rN, PW.rE, PW.peek, PW.wUn, PW.wBin, PW.wLk, PW.wLk2, PW.wLkR, PW.wLkB, PW.tB, PW.tTr, PW.truth, PW.tAnd, PW.tOr, PW.tNot, PW.tYes, PW.wAnd, PW.wOr, PW.wNot, PW.wIf, PW.wChain, PW.aNil, PW.aCons, PW.wTup, PW.nLst, PW.nCat, PW.nRep, PW.wPart, PW.fSl, PW.wSl, PW.nSl, PW.wSlL, PW.fAdd, PW.fSub, PW.fMul, PW.fFdiv, PW.fMod, PW.fPow, PW.fShl, PW.fShr, PW.fAnd, PW.fOr, PW.fXor, PW.fNeg, PW.fLt, PW.fLe, PW.fGt, PW.fGe, PW.fEq, PW.fNe, PW.fIsNone, PW.fIsntNone, PW.isNon, PW.fIn, PW.fNotIn, PW.fIx, PW.fLen, PW.fInt, PW.fAbs, PW.fMax2, PW.fMin2, PW.fTuple, PW.fList, PW.fMaxL, PW.fMinL, PW.fIs, PW.isTy, PW.fIsO, PW.fFld, PW.fCon, PW.fTab, PW.fInTab, PW.fNInTab, PW.plain, PW.plainL, PW.eqv, PW.eqvL, PW.small, PW.putO, PW.free, PW.isBo_sh, PW.isBo_un, PW.isBo_ow, PW.isBo_rd, PW.wipe, PW.unwipe, PW.isLst, PW.putF, PW.iSeq, PW.iStr, PW.iRng1, PW.iRng2, PW.iRngD, PW.iEnum, PW.iZip, PW.items, PW.bNil, PW.bV, PW.bB, PW.bR, PW.kCall, PW.kMeth, PW.kMake, PW.oV, PW.oR, PW.oB, PW.isObj, PW.isCls, PW.wSh, PW.nFr, PW.wInO, PW.wNInO, PW.call, PW.lent, PW.lentB, PW.lentR, PW.lentOk, PW.back_nil, PW.back_v, PW.back_r, PW.back_b, PW.entry, PW.noX, PW.b2i, PW.nLc, PW.fDget, PW.fDin, PW.fDnin, PW.fDlen, PW.nDit, PW.nDic, PW.sDput, PW.putKv, PW.dKv, PW.fSortSet, PW.wMt, PW.fSIndex, PW.fSFind, PW.isStr, PW.isLst1, PW.nLc2, PW.elt1, PW.elt2, line_eq]
  refine ⟨v, s, t.reverse, hv, hrl, by omega, by omega, rfl, fun os => ?_⟩
  simp [PW.sSeq, PW.sPass, PW.sBreak, PW.sCont, PW.sNever, PW.sExpr, PW.sSet, PW.sNew, PW.sPut, PW.sApp, PW.sFld, PW.sAsg, PW.sRet, PW.sRetN, PW.sRetF, PW.sRetO, PW.sIf, PW.sFor, PW.gN, PW.gT, PW.gUn, PW.wC, PW.wV, PW.rN, PW.rE, PW.peek, PW.wUn, PW.wBin, PW.wLk, PW.wLk2, PW.wLkR, PW.wLkB, PW.tB, PW.tTr, PW.truth, PW.tAnd, PW.tOr, PW.tNot, PW.tYes, PW.wAnd, PW.wOr, PW.wNot, PW.wIf, PW.wChain, PW.aNil, PW.aCons, PW.wTup, PW.nLst, PW.nCat, PW.nRep, PW.wPart, PW.fSl, PW.wSl, PW.nSl, PW.wSlL, PW.fAdd, PW.fSub, PW.fMul, PW.fFdiv, PW.fMod, PW.fPow, PW.fShl, PW.fShr, PW.fAnd, PW.fOr, PW.fXor, PW.fNeg, PW.fLt, PW.fLe, PW.fGt, PW.fGe, PW.fEq, PW.fNe, PW.fIsNone, PW.fIsntNone, PW.isNon, PW.fIn, PW.fNotIn, PW.fIx, PW.fLen, PW.fInt, PW.fAbs, PW.fMax2, PW.fMin2, PW.fTuple, PW.fList, PW.fMaxL, PW.fMinL, PW.fIs, PW.isTy, PW.fIsO, PW.fFld, PW.fCon, PW.fTab, PW.fInTab, PW.fNInTab, PW.plain, PW.plainL, PW.eqv, PW.eqvL, PW.small, PW.putO, PW.free, PW.isBo_sh, PW.isBo_un, PW.isBo_ow, PW.isBo_rd, PW.wipe, PW.unwipe, PW.isLst, PW.putF, PW.iSeq, PW.iStr, PW.iRng1, PW.iRng2, PW.iRngD, PW.iEnum, PW.iZip, PW.items, PW.bNil, PW.bV, PW.bB, PW.bR, PW.kCall, PW.kMeth, PW.kMake, PW.oV, PW.oR, PW.oB, PW.isObj, PW.isCls, PW.wSh, PW.nFr, PW.wInO, PW.wNInO, PW.call, PW.lent, PW.lentB, PW.lentR, PW.lentOk, PW.back_nil, PW.back_v, PW.back_r, PW.back_b, PW.entry, PW.noX, PW.b2i, PW.nLc, PW.fDget, PW.fDin, PW.fDnin, PW.fDlen, PW.nDit, PW.nDic, PW.sDput, PW.putKv, PW.dKv, PW.fSortSet, PW.wMt, PW.fSIndex, PW.fSFind, PW.isStr, PW.isLst1, PW.nLc2, PW.elt1, PW.elt2, line_eq, PW.atI, PW.ixN]
  have ov : ∀ {w}, Over s w → Over t (w.map (xch s t.reverse)) := fun hw c hc => List.mem_reverse.mp (xch_over hrl hw c hc)
  refine ⟨t, u.map (xch s t.reverse), v.map (xch s t.reverse), r, ht, ov hu, ov hv, by simpa using lu, by simpa using lv, hr, rfl, fun b5 os hb5 => ?_⟩
  simp [PW.sSeq, PW.sPass, PW.sBreak, PW.sCont, PW.sNever, PW.sExpr, PW.sSet, PW.sNew, PW.sPut, PW.sApp, PW.sFld, PW.sAsg, PW.sRet, PW.sRetN, PW.sRetF, PW.sRetO, PW.sIf, PW.sFor, PW.gN, PW.gT, PW.gUn, PW.wC, PW.wV, PW.rN, PW.rE, PW.peek, PW.wUn, PW.wBin, PW.wLk, PW.wLk2, PW.wLkR, PW.wLkB, PW.tB, PW.tTr, PW.truth, PW.tAnd, PW.tOr, PW.tNot, PW.tYes, PW.wAnd, PW.wOr, PW.wNot, PW.wIf, PW.wChain, PW.aNil, PW.aCons, PW.wTup, PW.nLst, PW.nCat, PW.nRep, PW.wPart, PW.fSl, PW.wSl, PW.nSl, PW.wSlL, PW.fAdd, PW.fSub, PW.fMul, PW.fFdiv, PW.fMod, PW.fPow, PW.fShl, PW.fShr, PW.fAnd, PW.fOr, PW.fXor, PW.fNeg, PW.fLt, PW.fLe, PW.fGt, PW.fGe, PW.fEq, PW.fNe, PW.fIsNone, PW.fIsntNone, PW.isNon, PW.fIn, PW.fNotIn, PW.fIx, PW.fLen, PW.fInt, PW.fAbs, PW.fMax2, PW.fMin2, PW.fTuple, PW.fList, PW.fMaxL, PW.fMinL, PW.fIs, PW.isTy, PW.fIsO, PW.fFld, PW.fCon, PW.fTab, PW.fInTab, PW.fNInTab, PW.plain, PW.plainL, PW.eqv, PW.eqvL, PW.small, PW.putO, PW.free, PW.isBo_sh, PW.isBo_un, PW.isBo_ow, PW.isBo_rd, PW.wipe, PW.unwipe, PW.isLst, PW.putF, PW.iSeq, PW.iStr, PW.iRng1, PW.iRng2, PW.iRngD, PW.iEnum, PW.iZip, PW.items, PW.bNil, PW.bV, PW.bB, PW.bR, PW.kCall, PW.kMeth, PW.kMake, PW.oV, PW.oR, PW.oB, PW.isObj, PW.isCls, PW.wSh, PW.nFr, PW.wInO, PW.wNInO, PW.call, PW.lent, PW.lentB, PW.lentR, PW.lentOk, PW.back_nil, PW.back_v, PW.back_r, PW.back_b, PW.entry, PW.noX, PW.b2i, PW.nLc, PW.fDget, PW.fDin, PW.fDnin, PW.fDlen, PW.nDit, PW.nDic, PW.sDput, PW.putKv, PW.dKv, PW.fSortSet, PW.wMt, PW.fSIndex, PW.fSFind, PW.isStr, PW.isLst1, PW.nLc2, PW.elt1, PW.elt2, line_eq]
  rw [rev_iff] at hb2
  rw [xch_al hts.symm ht.nodup hu hv] at hb4
  rw [xch_al hrl (List.pairwise_reverse.mpr (ht.nodup.imp Ne.symm)) hu hv] at hb5
  have e2 := bool_of hb2 hb; have e3 := bool_of hb3 hb; have e4 := bool_of hb4 hb; have e5 := bool_of hb5 hb
  rw [e2, e3, e4, e5]
  exact same_bls [b, b, b, b] (by simp) fun os => by simpa [PW.sSeq, PW.sPass, PW.sBreak, PW.sCont, PW.sNever, PW.sExpr, PW.sSet, PW.sNew, PW.sPut, PW.sApp, PW.sFld, PW.sAsg, PW.sRet, PW.sRetN, PW.sRetF, PW.sRetO, PW.sIf, PW.sFor, PW.gN, PW.gT, PW.gUn, PW.wC, PW.wV, PW.rN, PW.rE, PW.peek, PW.wUn, PW.wBin, PW.wLk, PW.wLk2, PW.wLkR, PW.wLkB, PW.tB, PW.tTr, PW.truth, PW.tAnd, PW.tOr, PW.tNot, PW.tYes, PW.wAnd, PW.wOr, PW.wNot, PW.wIf, PW.wChain, PW.aNil, PW.aCons, PW.wTup, PW.nLst, PW.nCat, PW.nRep, PW.wPart, PW.fSl, PW.wSl, PW.nSl, PW.wSlL, PW.fAdd, PW.fSub, PW.fMul, PW.fFdiv, PW.fMod, PW.fPow, PW.fShl, PW.fShr, PW.fAnd, PW.fOr, PW.fXor, PW.fNeg, PW.fLt, PW.fLe, PW.fGt, PW.fGe, PW.fEq, PW.fNe, PW.fIsNone, PW.fIsntNone, PW.isNon, PW.fIn, PW.fNotIn, PW.fIx, PW.fLen, PW.fInt, PW.fAbs, PW.fMax2, PW.fMin2, PW.fTuple, PW.fList, PW.fMaxL, PW.fMinL, PW.fIs, PW.isTy, PW.fIsO, PW.fFld, PW.fCon, PW.fTab, PW.fInTab, PW.fNInTab, PW.plain, PW.plainL, PW.eqv, PW.eqvL, PW.small, PW.putO, PW.free, PW.isBo_sh, PW.isBo_un, PW.isBo_ow, PW.isBo_rd, PW.wipe, PW.unwipe, PW.isLst, PW.putF, PW.iSeq, PW.iStr, PW.iRng1, PW.iRng2, PW.iRngD, PW.iEnum, PW.iZip, PW.items, PW.bNil, PW.bV, PW.bB, PW.bR, PW.kCall, PW.kMeth, PW.kMake, PW.oV, PW.oR, PW.oB, PW.isObj, PW.isCls, PW.wSh, PW.nFr, PW.wInO, PW.wNInO, PW.call, PW.lent, PW.lentB, PW.lentR, PW.lentOk, PW.back_nil, PW.back_v, PW.back_r, PW.back_b, PW.entry, PW.noX, PW.b2i, PW.nLc, PW.fDget, PW.fDin, PW.fDnin, PW.fDlen, PW.nDit, PW.nDic, PW.sDput, PW.putKv, PW.dKv, PW.fSortSet, PW.wMt, PW.fSIndex, PW.fSFind, PW.isStr, PW.isLst1, PW.nLc2, PW.elt1, PW.elt2] using h _
end PW
end

section
set_option linter.all false
set_option maxHeartbeats 4000000
set_option maxRecDepth 100000
/-! G9: loops and numbers. -/
namespace PW
open GM
theorem shl1 (r : Nat) : (1 : Int) * 2 ^ (r : Int).toNat - 1 = ((2 ^ r - 1 : Nat) : Int) := by
  have : 1 ≤ 2 ^ r := Nat.one_le_two_pow
  rw [Int.toNat_natCast, Int.one_mul]
  push_cast [Int.natCast_sub this]
  rfl
theorem two_le {r : Nat} (h : r ≤ 3) : 2 ^ r ≤ 8 := by
  match r, h with
  | 0, _ => decide
  | 1, _ => decide
  | 2, _ => decide
  | 3, _ => decide
theorem one_al {k : Nat} (u w v : List Nat) {m n : Nat} (hm : 2 ^ k - 1 ≤ m) (hn : 2 ^ k - 1 ≤ n) : Al k (u ++ pw w m ++ v) (u ++ pw w n ++ v) := ((Al.refl k u).app (pow_al w k m n hm hn)).app (Al.refl k v)
def φ__law_loops : FSpec := fun ss q _ => ∃ d s r, IsSt d ∧ Lets s ∧ r ≤ 3 ∧ ss = [.bo d, .sh (.str s), .sh (natD r)] ∧ ∀ d', IsSt d' → q (.sh (.bl true)) [.bo d', .sh (.str s), .sh (natD r)]
theorem len__law_loops : ∀ ss q e, φ__law_loops ss q e → ss.length = 3 := by rintro ss q e ⟨d, s, r, _, _, _, rfl, _⟩; rfl
def w__law_loops : PW.WS :=
 (PW.sSeq (PW.sSet 3 (PW.wSh (PW.kCall φ__law_word [] (PW.bB 0 (PW.bV (PW.wV 1) (PW.bV (PW.wC (.int 1)) PW.bNil))))))
 (PW.sSeq (PW.sSet 4 (PW.wSh (PW.kCall φ__law_word [] (PW.bB 0 (PW.bV (PW.wV 1) (PW.bV (PW.wC (.int 1)) PW.bNil))))))
 (PW.sSeq (PW.sSet 5 (PW.wLk2 PW.fIx (PW.rN 1) (PW.wSh (PW.kCall φ__law_draw [] (PW.bB 0 (PW.bV (PW.wLk PW.fLen (PW.rN 1)) PW.bNil))))))
 (PW.sSeq (PW.sSet 6 (PW.wBin PW.fSub (PW.wBin PW.fShl (PW.wC (.int 1)) (PW.wV 2)) (PW.wC (.int 1))))
 (PW.sSeq (PW.sIf (PW.tB (PW.wLkB PW.fLt (PW.rN 2) (PW.rE (PW.wC (.int 3)))))
 (PW.sSeq (PW.sSet 5 (PW.wBin PW.fAdd (PW.wV 5) (PW.wSh (PW.kCall φ__law_word [] (PW.bB 0 (PW.bV (PW.wV 1) (PW.bV (PW.wC (.int 1)) PW.bNil)))))))
 (PW.sSet 6 (PW.wBin PW.fAdd (PW.wV 6) (PW.wSh (PW.kCall φ__law_draw [] (PW.bB 0 (PW.bV (PW.wC (.int 3)) PW.bNil)))))))
 (PW.sSet 6 (PW.wBin PW.fAdd (PW.wV 6) (PW.wSh (PW.kCall φ__law_draw [] (PW.bB 0 (PW.bV (PW.wC (.int 2)) PW.bNil)))))))
 (PW.sSeq (PW.sSet 7 (PW.wBin PW.fAdd (PW.wBin PW.fAdd (PW.wV 3) (PW.wBin PW.fMul (PW.wV 5) (PW.wV 6))) (PW.wV 4)))
 (PW.sSeq (PW.sSet 8 (PW.wBin PW.fAdd (PW.wBin PW.fAdd (PW.wV 3) (PW.wBin PW.fMul (PW.wV 5) (PW.wBin PW.fAdd (PW.wV 6) (PW.wC (.int 1))))) (PW.wV 4)))
 (PW.sSeq (PW.sIf (PW.tNot (PW.tB (PW.wSh (PW.kCall φ__law_same [] (PW.bV (PW.wSh (PW.kCall φ_alike [] (PW.bV (PW.wV 1) (PW.bV (PW.wV 7) (PW.bV (PW.wV 8) (PW.bV (PW.wV 2) PW.bNil)))))) (PW.bV (PW.wC (.bl true)) PW.bNil))))))
 (PW.sRet (PW.wC (.bl false)))
 PW.sPass)
 (PW.sSeq (PW.sSet 9 (PW.wBin PW.fMul (PW.wLk2 PW.fIx (PW.rN 1) (PW.wSh (PW.kCall φ__law_draw [] (PW.bB 0 (PW.bV (PW.wLk PW.fLen (PW.rN 1)) PW.bNil))))) (PW.wV 6)))
 (PW.sSeq (PW.sSet 10 (PW.wBin PW.fAdd (PW.wV 9) (PW.wSl (PW.rN 9) none (some (PW.wC (.int 1))))))
 (PW.sSeq (PW.sIf (PW.tB (PW.wLkB PW.fEq (PW.rN 2) (PW.rE (PW.wC (.int 3)))))
 (PW.sSeq (PW.sSet 9 (PW.wSh (PW.kCall φ__law_word [] (PW.bB 0 (PW.bV (PW.wV 1) (PW.bV (PW.wC (.int 2)) PW.bNil))))))
 (PW.sSet 10 (PW.wV 9)))
 PW.sPass)
 (PW.sSeq (PW.sSet 11 (PW.nLst (PW.aCons (PW.wSh (PW.kCall φ_alike [] (PW.bV (PW.wV 1) (PW.bV (PW.wBin PW.fAdd (PW.wV 7) (PW.wV 9)) (PW.bV (PW.wBin PW.fAdd (PW.wV 8) (PW.wV 10)) (PW.bV (PW.wV 2) PW.bNil)))))) (PW.aCons (PW.wSh (PW.kCall φ_alike [] (PW.bV (PW.wV 1) (PW.bV (PW.wBin PW.fAdd (PW.wV 9) (PW.wV 8)) (PW.bV (PW.wBin PW.fAdd (PW.wV 10) (PW.wV 7)) (PW.bV (PW.wV 2) PW.bNil)))))) PW.aNil))))
 (PW.sRet (PW.wSh (PW.kCall φ__law_same [] (PW.bV (PW.wV 11) (PW.bV (PW.nLst (PW.aCons (PW.wC (.bl true)) (PW.aCons (PW.wC (.bl true)) PW.aNil))) PW.bNil)))))))))))))))))

theorem hs__law_loops : Does φ__law_loops 12 w__law_loops := by
  rintro ss q e ⟨d, s, r, hd, hs, hr, rfl, h⟩
  have hl : s.length ≤ 16777216 := by have := hs.le; omega
  have hn1 := hs.ne
  have hn3 := hs.le
  have h2r := two_le hr
  have h1r : 1 ≤ 2 ^ r := Nat.one_le_two_pow
  have letter : ∀ (x : Int), 0 ≤ x → x < s.length → ∃ c, c ∈ s ∧ atI s x = some c := fun x h0 h1 => by
    rw [atI_of h0]
    have : x.toNat < s.length := by omega
    exact ⟨_, List.getElem_mem this, List.getElem?_eq_getElem this⟩
  unfold w__law_loops entry
  refine seq_cut (fun ρ => ∃ d f, IsSt d ∧ Over s f ∧ f.length ≤ 1 ∧ ρ = [.bo d, .sh (.str s), .sh (natD r), .sh (.str f), .un, .un, .un, .un, .un, .un, .un, .un]) (fun K hK => ?_) ?_
  · simp [PW.sSeq, PW.sPass, PW.sBreak, PW.sCont, PW.sNever, PW.sExpr, PW.sSet, PW.sNew, PW.sPut, PW.sApp, PW.sFld, PW.sAsg, PW.sRet, PW.sRetN, PW.sRetF, PW.sRetO, PW.sIf, PW.sFor, PW.gN, PW.gT, PW.gUn, PW.wC, PW.wV, PW.rN, PW.rE, PW.peek, PW.wUn, PW.wBin, PW.wLk, PW.wLk2, PW.wLkR, PW.wLkB, PW.tB, PW.tTr, PW.truth, PW.tAnd, PW.tOr, PW.tNot, PW.tYes, PW.wAnd, PW.wOr, PW.wNot, PW.wIf, PW.wChain, PW.aNil, PW.aCons, PW.wTup, PW.nLst, PW.nCat, PW.nRep, PW.wPart, PW.fSl, PW.wSl, PW.nSl, PW.wSlL, PW.fAdd, PW.fSub, PW.fMul, PW.fFdiv, PW.fMod, PW.fPow, PW.fShl, PW.fShr, PW.fAnd, PW.fOr, PW.fXor, PW.fNeg, PW.fLt, PW.fLe, PW.fGt, PW.fGe, PW.fEq, PW.fNe, PW.fIsNone, PW.fIsntNone, PW.isNon, PW.fIn, PW.fNotIn, PW.fIx, PW.fLen, PW.fInt, PW.fAbs, PW.fMax2, PW.fMin2, PW.fTuple, PW.fList, PW.fMaxL, PW.fMinL, PW.fIs, PW.isTy, PW.fIsO, PW.fFld, PW.fCon, PW.fTab, PW.fInTab, PW.fNInTab, PW.plain, PW.plainL, PW.eqv, PW.eqvL, PW.small, PW.putO, PW.free, PW.isBo_sh, PW.isBo_un, PW.isBo_ow, PW.isBo_rd, PW.wipe, PW.unwipe, PW.isLst, PW.putF, PW.iSeq, PW.iStr, PW.iRng1, PW.iRng2, PW.iRngD, PW.iEnum, PW.iZip, PW.items, PW.bNil, PW.bV, PW.bB, PW.bR, PW.kCall, PW.kMeth, PW.kMake, PW.oV, PW.oR, PW.oB, PW.isObj, PW.isCls, PW.wSh, PW.nFr, PW.wInO, PW.wNInO, PW.call, PW.lent, PW.lentB, PW.lentR, PW.lentOk, PW.back_nil, PW.back_v, PW.back_r, PW.back_b, PW.entry, PW.noX, PW.b2i, PW.nLc, PW.fDget, PW.fDin, PW.fDnin, PW.fDlen, PW.nDit, PW.nDic, PW.sDput, PW.putKv, PW.dKv, PW.fSortSet, PW.wMt, PW.fSIndex, PW.fSFind, PW.isStr, PW.isLst1, PW.nLc2, PW.elt1, PW.elt2, line_eq]
    refine ⟨d, s, 1, hd, hs, by omega, by omega, rfl, fun d1 f hd1 hf lf => ?_⟩
    simp [PW.sSeq, PW.sPass, PW.sBreak, PW.sCont, PW.sNever, PW.sExpr, PW.sSet, PW.sNew, PW.sPut, PW.sApp, PW.sFld, PW.sAsg, PW.sRet, PW.sRetN, PW.sRetF, PW.sRetO, PW.sIf, PW.sFor, PW.gN, PW.gT, PW.gUn, PW.wC, PW.wV, PW.rN, PW.rE, PW.peek, PW.wUn, PW.wBin, PW.wLk, PW.wLk2, PW.wLkR, PW.wLkB, PW.tB, PW.tTr, PW.truth, PW.tAnd, PW.tOr, PW.tNot, PW.tYes, PW.wAnd, PW.wOr, PW.wNot, PW.wIf, PW.wChain, PW.aNil, PW.aCons, PW.wTup, PW.nLst, PW.nCat, PW.nRep, PW.wPart, PW.fSl, PW.wSl, PW.nSl, PW.wSlL, PW.fAdd, PW.fSub, PW.fMul, PW.fFdiv, PW.fMod, PW.fPow, PW.fShl, PW.fShr, PW.fAnd, PW.fOr, PW.fXor, PW.fNeg, PW.fLt, PW.fLe, PW.fGt, PW.fGe, PW.fEq, PW.fNe, PW.fIsNone, PW.fIsntNone, PW.isNon, PW.fIn, PW.fNotIn, PW.fIx, PW.fLen, PW.fInt, PW.fAbs, PW.fMax2, PW.fMin2, PW.fTuple, PW.fList, PW.fMaxL, PW.fMinL, PW.fIs, PW.isTy, PW.fIsO, PW.fFld, PW.fCon, PW.fTab, PW.fInTab, PW.fNInTab, PW.plain, PW.plainL, PW.eqv, PW.eqvL, PW.small, PW.putO, PW.free, PW.isBo_sh, PW.isBo_un, PW.isBo_ow, PW.isBo_rd, PW.wipe, PW.unwipe, PW.isLst, PW.putF, PW.iSeq, PW.iStr, PW.iRng1, PW.iRng2, PW.iRngD, PW.iEnum, PW.iZip, PW.items, PW.bNil, PW.bV, PW.bB, PW.bR, PW.kCall, PW.kMeth, PW.kMake, PW.oV, PW.oR, PW.oB, PW.isObj, PW.isCls, PW.wSh, PW.nFr, PW.wInO, PW.wNInO, PW.call, PW.lent, PW.lentB, PW.lentR, PW.lentOk, PW.back_nil, PW.back_v, PW.back_r, PW.back_b, PW.entry, PW.noX, PW.b2i, PW.nLc, PW.fDget, PW.fDin, PW.fDnin, PW.fDlen, PW.nDit, PW.nDic, PW.sDput, PW.putKv, PW.dKv, PW.fSortSet, PW.wMt, PW.fSIndex, PW.fSFind, PW.isStr, PW.isLst1, PW.nLc2, PW.elt1, PW.elt2, line_eq]
    exact hK _ ⟨d1, f, hd1, hf, by simpa using lf, rfl⟩
  rintro ρ ⟨d, f, hd, hf, lf, rfl⟩
  refine seq_cut (fun ρ => ∃ d g, IsSt d ∧ Over s g ∧ g.length ≤ 1 ∧ ρ = [.bo d, .sh (.str s), .sh (natD r), .sh (.str f), .sh (.str g), .un, .un, .un, .un, .un, .un, .un]) (fun K hK => ?_) ?_
  · simp [PW.sSeq, PW.sPass, PW.sBreak, PW.sCont, PW.sNever, PW.sExpr, PW.sSet, PW.sNew, PW.sPut, PW.sApp, PW.sFld, PW.sAsg, PW.sRet, PW.sRetN, PW.sRetF, PW.sRetO, PW.sIf, PW.sFor, PW.gN, PW.gT, PW.gUn, PW.wC, PW.wV, PW.rN, PW.rE, PW.peek, PW.wUn, PW.wBin, PW.wLk, PW.wLk2, PW.wLkR, PW.wLkB, PW.tB, PW.tTr, PW.truth, PW.tAnd, PW.tOr, PW.tNot, PW.tYes, PW.wAnd, PW.wOr, PW.wNot, PW.wIf, PW.wChain, PW.aNil, PW.aCons, PW.wTup, PW.nLst, PW.nCat, PW.nRep, PW.wPart, PW.fSl, PW.wSl, PW.nSl, PW.wSlL, PW.fAdd, PW.fSub, PW.fMul, PW.fFdiv, PW.fMod, PW.fPow, PW.fShl, PW.fShr, PW.fAnd, PW.fOr, PW.fXor, PW.fNeg, PW.fLt, PW.fLe, PW.fGt, PW.fGe, PW.fEq, PW.fNe, PW.fIsNone, PW.fIsntNone, PW.isNon, PW.fIn, PW.fNotIn, PW.fIx, PW.fLen, PW.fInt, PW.fAbs, PW.fMax2, PW.fMin2, PW.fTuple, PW.fList, PW.fMaxL, PW.fMinL, PW.fIs, PW.isTy, PW.fIsO, PW.fFld, PW.fCon, PW.fTab, PW.fInTab, PW.fNInTab, PW.plain, PW.plainL, PW.eqv, PW.eqvL, PW.small, PW.putO, PW.free, PW.isBo_sh, PW.isBo_un, PW.isBo_ow, PW.isBo_rd, PW.wipe, PW.unwipe, PW.isLst, PW.putF, PW.iSeq, PW.iStr, PW.iRng1, PW.iRng2, PW.iRngD, PW.iEnum, PW.iZip, PW.items, PW.bNil, PW.bV, PW.bB, PW.bR, PW.kCall, PW.kMeth, PW.kMake, PW.oV, PW.oR, PW.oB, PW.isObj, PW.isCls, PW.wSh, PW.nFr, PW.wInO, PW.wNInO, PW.call, PW.lent, PW.lentB, PW.lentR, PW.lentOk, PW.back_nil, PW.back_v, PW.back_r, PW.back_b, PW.entry, PW.noX, PW.b2i, PW.nLc, PW.fDget, PW.fDin, PW.fDnin, PW.fDlen, PW.nDit, PW.nDic, PW.sDput, PW.putKv, PW.dKv, PW.fSortSet, PW.wMt, PW.fSIndex, PW.fSFind, PW.isStr, PW.isLst1, PW.nLc2, PW.elt1, PW.elt2, line_eq]
    refine ⟨d, s, 1, hd, hs, by omega, by omega, rfl, fun d1 f hd1 hf lf => ?_⟩
    simp [PW.sSeq, PW.sPass, PW.sBreak, PW.sCont, PW.sNever, PW.sExpr, PW.sSet, PW.sNew, PW.sPut, PW.sApp, PW.sFld, PW.sAsg, PW.sRet, PW.sRetN, PW.sRetF, PW.sRetO, PW.sIf, PW.sFor, PW.gN, PW.gT, PW.gUn, PW.wC, PW.wV, PW.rN, PW.rE, PW.peek, PW.wUn, PW.wBin, PW.wLk, PW.wLk2, PW.wLkR, PW.wLkB, PW.tB, PW.tTr, PW.truth, PW.tAnd, PW.tOr, PW.tNot, PW.tYes, PW.wAnd, PW.wOr, PW.wNot, PW.wIf, PW.wChain, PW.aNil, PW.aCons, PW.wTup, PW.nLst, PW.nCat, PW.nRep, PW.wPart, PW.fSl, PW.wSl, PW.nSl, PW.wSlL, PW.fAdd, PW.fSub, PW.fMul, PW.fFdiv, PW.fMod, PW.fPow, PW.fShl, PW.fShr, PW.fAnd, PW.fOr, PW.fXor, PW.fNeg, PW.fLt, PW.fLe, PW.fGt, PW.fGe, PW.fEq, PW.fNe, PW.fIsNone, PW.fIsntNone, PW.isNon, PW.fIn, PW.fNotIn, PW.fIx, PW.fLen, PW.fInt, PW.fAbs, PW.fMax2, PW.fMin2, PW.fTuple, PW.fList, PW.fMaxL, PW.fMinL, PW.fIs, PW.isTy, PW.fIsO, PW.fFld, PW.fCon, PW.fTab, PW.fInTab, PW.fNInTab, PW.plain, PW.plainL, PW.eqv, PW.eqvL, PW.small, PW.putO, PW.free, PW.isBo_sh, PW.isBo_un, PW.isBo_ow, PW.isBo_rd, PW.wipe, PW.unwipe, PW.isLst, PW.putF, PW.iSeq, PW.iStr, PW.iRng1, PW.iRng2, PW.iRngD, PW.iEnum, PW.iZip, PW.items, PW.bNil, PW.bV, PW.bB, PW.bR, PW.kCall, PW.kMeth, PW.kMake, PW.oV, PW.oR, PW.oB, PW.isObj, PW.isCls, PW.wSh, PW.nFr, PW.wInO, PW.wNInO, PW.call, PW.lent, PW.lentB, PW.lentR, PW.lentOk, PW.back_nil, PW.back_v, PW.back_r, PW.back_b, PW.entry, PW.noX, PW.b2i, PW.nLc, PW.fDget, PW.fDin, PW.fDnin, PW.fDlen, PW.nDit, PW.nDic, PW.sDput, PW.putKv, PW.dKv, PW.fSortSet, PW.wMt, PW.fSIndex, PW.fSFind, PW.isStr, PW.isLst1, PW.nLc2, PW.elt1, PW.elt2, line_eq]
    exact hK _ ⟨d1, f, hd1, hf, by simpa using lf, rfl⟩
  rintro ρ ⟨d, g, hd, hg, lg, rfl⟩
  refine seq_cut (fun ρ => ∃ d c, IsSt d ∧ c ∈ s ∧ ρ = [.bo d, .sh (.str s), .sh (natD r), .sh (.str f), .sh (.str g), .sh (.str [c]), .un, .un, .un, .un, .un, .un]) (fun K hK => ?_) ?_
  · simp [PW.sSeq, PW.sPass, PW.sBreak, PW.sCont, PW.sNever, PW.sExpr, PW.sSet, PW.sNew, PW.sPut, PW.sApp, PW.sFld, PW.sAsg, PW.sRet, PW.sRetN, PW.sRetF, PW.sRetO, PW.sIf, PW.sFor, PW.gN, PW.gT, PW.gUn, PW.wC, PW.wV, PW.rN, PW.rE, PW.peek, PW.wUn, PW.wBin, PW.wLk, PW.wLk2, PW.wLkR, PW.wLkB, PW.tB, PW.tTr, PW.truth, PW.tAnd, PW.tOr, PW.tNot, PW.tYes, PW.wAnd, PW.wOr, PW.wNot, PW.wIf, PW.wChain, PW.aNil, PW.aCons, PW.wTup, PW.nLst, PW.nCat, PW.nRep, PW.wPart, PW.fSl, PW.wSl, PW.nSl, PW.wSlL, PW.fAdd, PW.fSub, PW.fMul, PW.fFdiv, PW.fMod, PW.fPow, PW.fShl, PW.fShr, PW.fAnd, PW.fOr, PW.fXor, PW.fNeg, PW.fLt, PW.fLe, PW.fGt, PW.fGe, PW.fEq, PW.fNe, PW.fIsNone, PW.fIsntNone, PW.isNon, PW.fIn, PW.fNotIn, PW.fIx, PW.fLen, PW.fInt, PW.fAbs, PW.fMax2, PW.fMin2, PW.fTuple, PW.fList, PW.fMaxL, PW.fMinL, PW.fIs, PW.isTy, PW.fIsO, PW.fFld, PW.fCon, PW.fTab, PW.fInTab, PW.fNInTab, PW.plain, PW.plainL, PW.eqv, PW.eqvL, PW.small, PW.putO, PW.free, PW.isBo_sh, PW.isBo_un, PW.isBo_ow, PW.isBo_rd, PW.wipe, PW.unwipe, PW.isLst, PW.putF, PW.iSeq, PW.iStr, PW.iRng1, PW.iRng2, PW.iRngD, PW.iEnum, PW.iZip, PW.items, PW.bNil, PW.bV, PW.bB, PW.bR, PW.kCall, PW.kMeth, PW.kMake, PW.oV, PW.oR, PW.oB, PW.isObj, PW.isCls, PW.wSh, PW.nFr, PW.wInO, PW.wNInO, PW.call, PW.lent, PW.lentB, PW.lentR, PW.lentOk, PW.back_nil, PW.back_v, PW.back_r, PW.back_b, PW.entry, PW.noX, PW.b2i, PW.nLc, PW.fDget, PW.fDin, PW.fDnin, PW.fDlen, PW.nDit, PW.nDic, PW.sDput, PW.putKv, PW.dKv, PW.fSortSet, PW.wMt, PW.fSIndex, PW.fSFind, PW.isStr, PW.isLst1, PW.nLc2, PW.elt1, PW.elt2, line_eq, hl]
    refine ⟨d, s.length, hd, by omega, by omega, rfl, fun d1 x hd1 x0 x1 => ?_⟩
    obtain ⟨c, hc, e⟩ := letter x x0 x1
    simp [PW.sSeq, PW.sPass, PW.sBreak, PW.sCont, PW.sNever, PW.sExpr, PW.sSet, PW.sNew, PW.sPut, PW.sApp, PW.sFld, PW.sAsg, PW.sRet, PW.sRetN, PW.sRetF, PW.sRetO, PW.sIf, PW.sFor, PW.gN, PW.gT, PW.gUn, PW.wC, PW.wV, PW.rN, PW.rE, PW.peek, PW.wUn, PW.wBin, PW.wLk, PW.wLk2, PW.wLkR, PW.wLkB, PW.tB, PW.tTr, PW.truth, PW.tAnd, PW.tOr, PW.tNot, PW.tYes, PW.wAnd, PW.wOr, PW.wNot, PW.wIf, PW.wChain, PW.aNil, PW.aCons, PW.wTup, PW.nLst, PW.nCat, PW.nRep, PW.wPart, PW.fSl, PW.wSl, PW.nSl, PW.wSlL, PW.fAdd, PW.fSub, PW.fMul, PW.fFdiv, PW.fMod, PW.fPow, PW.fShl, PW.fShr, PW.fAnd, PW.fOr, PW.fXor, PW.fNeg, PW.fLt, PW.fLe, PW.fGt, PW.fGe, PW.fEq, PW.fNe, PW.fIsNone, PW.fIsntNone, PW.isNon, PW.fIn, PW.fNotIn, PW.fIx, PW.fLen, PW.fInt, PW.fAbs, PW.fMax2, PW.fMin2, PW.fTuple, PW.fList, PW.fMaxL, PW.fMinL, PW.fIs, PW.isTy, PW.fIsO, PW.fFld, PW.fCon, PW.fTab, PW.fInTab, PW.fNInTab, PW.plain, PW.plainL, PW.eqv, PW.eqvL, PW.small, PW.putO, PW.free, PW.isBo_sh, PW.isBo_un, PW.isBo_ow, PW.isBo_rd, PW.wipe, PW.unwipe, PW.isLst, PW.putF, PW.iSeq, PW.iStr, PW.iRng1, PW.iRng2, PW.iRngD, PW.iEnum, PW.iZip, PW.items, PW.bNil, PW.bV, PW.bB, PW.bR, PW.kCall, PW.kMeth, PW.kMake, PW.oV, PW.oR, PW.oB, PW.isObj, PW.isCls, PW.wSh, PW.nFr, PW.wInO, PW.wNInO, PW.call, PW.lent, PW.lentB, PW.lentR, PW.lentOk, PW.back_nil, PW.back_v, PW.back_r, PW.back_b, PW.entry, PW.noX, PW.b2i, PW.nLc, PW.fDget, PW.fDin, PW.fDnin, PW.fDlen, PW.nDit, PW.nDic, PW.sDput, PW.putKv, PW.dKv, PW.fSortSet, PW.wMt, PW.fSIndex, PW.fSFind, PW.isStr, PW.isLst1, PW.nLc2, PW.elt1, PW.elt2, line_eq, e]
    exact ⟨hl, hK _ ⟨d1, c, hd1, hc, rfl⟩⟩
  rintro ρ ⟨d, c, hd, hc, rfl⟩
  refine seq_cut (fun ρ => ρ = [.bo d, .sh (.str s), .sh (natD r), .sh (.str f), .sh (.str g), .sh (.str [c]), .sh (natD (2 ^ r - 1)), .un, .un, .un, .un, .un]) (fun K hK => ?_) ?_
  · simp [PW.sSeq, PW.sPass, PW.sBreak, PW.sCont, PW.sNever, PW.sExpr, PW.sSet, PW.sNew, PW.sPut, PW.sApp, PW.sFld, PW.sAsg, PW.sRet, PW.sRetN, PW.sRetF, PW.sRetO, PW.sIf, PW.sFor, PW.gN, PW.gT, PW.gUn, PW.wC, PW.wV, PW.rN, PW.rE, PW.peek, PW.wUn, PW.wBin, PW.wLk, PW.wLk2, PW.wLkR, PW.wLkB, PW.tB, PW.tTr, PW.truth, PW.tAnd, PW.tOr, PW.tNot, PW.tYes, PW.wAnd, PW.wOr, PW.wNot, PW.wIf, PW.wChain, PW.aNil, PW.aCons, PW.wTup, PW.nLst, PW.nCat, PW.nRep, PW.wPart, PW.fSl, PW.wSl, PW.nSl, PW.wSlL, PW.fAdd, PW.fSub, PW.fMul, PW.fFdiv, PW.fMod, PW.fPow, PW.fShl, PW.fShr, PW.fAnd, PW.fOr, PW.fXor, PW.fNeg, PW.fLt, PW.fLe, PW.fGt, PW.fGe, PW.fEq, PW.fNe, PW.fIsNone, PW.fIsntNone, PW.isNon, PW.fIn, PW.fNotIn, PW.fIx, PW.fLen, PW.fInt, PW.fAbs, PW.fMax2, PW.fMin2, PW.fTuple, PW.fList, PW.fMaxL, PW.fMinL, PW.fIs, PW.isTy, PW.fIsO, PW.fFld, PW.fCon, PW.fTab, PW.fInTab, PW.fNInTab, PW.plain, PW.plainL, PW.eqv, PW.eqvL, PW.small, PW.putO, PW.free, PW.isBo_sh, PW.isBo_un, PW.isBo_ow, PW.isBo_rd, PW.wipe, PW.unwipe, PW.isLst, PW.putF, PW.iSeq, PW.iStr, PW.iRng1, PW.iRng2, PW.iRngD, PW.iEnum, PW.iZip, PW.items, PW.bNil, PW.bV, PW.bB, PW.bR, PW.kCall, PW.kMeth, PW.kMake, PW.oV, PW.oR, PW.oB, PW.isObj, PW.isCls, PW.wSh, PW.nFr, PW.wInO, PW.wNInO, PW.call, PW.lent, PW.lentB, PW.lentR, PW.lentOk, PW.back_nil, PW.back_v, PW.back_r, PW.back_b, PW.entry, PW.noX, PW.b2i, PW.nLc, PW.fDget, PW.fDin, PW.fDnin, PW.fDlen, PW.nDit, PW.nDic, PW.sDput, PW.putKv, PW.dKv, PW.fSortSet, PW.wMt, PW.fSIndex, PW.fSFind, PW.isStr, PW.isLst1, PW.nLc2, PW.elt1, PW.elt2, line_eq, natD]
    refine ⟨by omega, ?_⟩
    have e := shl1 r
    simp at e
    rw [e]
    exact hK _ rfl
  rintro ρ rfl
  refine seq_cut (fun ρ => ∃ d l n, IsSt d ∧ Over s l ∧ 1 ≤ l.length ∧ l.length ≤ 2 ∧ 2 ^ r - 1 ≤ n ∧ n ≤ 9 ∧ ρ = [.bo d, .sh (.str s), .sh (natD r), .sh (.str f), .sh (.str g), .sh (.str l), .sh (natD n), .un, .un, .un, .un, .un]) (fun K hK => ?_) ?_
  · by_cases c3 : (r : Int) < 3
    · simp [PW.sSeq, PW.sPass, PW.sBreak, PW.sCont, PW.sNever, PW.sExpr, PW.sSet, PW.sNew, PW.sPut, PW.sApp, PW.sFld, PW.sAsg, PW.sRet, PW.sRetN, PW.sRetF, PW.sRetO, PW.sIf, PW.sFor, PW.gN, PW.gT, PW.gUn, PW.wC, PW.wV, PW.rN, PW.rE, PW.peek, PW.wUn, PW.wBin, PW.wLk, PW.wLk2, PW.wLkR, PW.wLkB, PW.tB, PW.tTr, PW.truth, PW.tAnd, PW.tOr, PW.tNot, PW.tYes, PW.wAnd, PW.wOr, PW.wNot, PW.wIf, PW.wChain, PW.aNil, PW.aCons, PW.wTup, PW.nLst, PW.nCat, PW.nRep, PW.wPart, PW.fSl, PW.wSl, PW.nSl, PW.wSlL, PW.fAdd, PW.fSub, PW.fMul, PW.fFdiv, PW.fMod, PW.fPow, PW.fShl, PW.fShr, PW.fAnd, PW.fOr, PW.fXor, PW.fNeg, PW.fLt, PW.fLe, PW.fGt, PW.fGe, PW.fEq, PW.fNe, PW.fIsNone, PW.fIsntNone, PW.isNon, PW.fIn, PW.fNotIn, PW.fIx, PW.fLen, PW.fInt, PW.fAbs, PW.fMax2, PW.fMin2, PW.fTuple, PW.fList, PW.fMaxL, PW.fMinL, PW.fIs, PW.isTy, PW.fIsO, PW.fFld, PW.fCon, PW.fTab, PW.fInTab, PW.fNInTab, PW.plain, PW.plainL, PW.eqv, PW.eqvL, PW.small, PW.putO, PW.free, PW.isBo_sh, PW.isBo_un, PW.isBo_ow, PW.isBo_rd, PW.wipe, PW.unwipe, PW.isLst, PW.putF, PW.iSeq, PW.iStr, PW.iRng1, PW.iRng2, PW.iRngD, PW.iEnum, PW.iZip, PW.items, PW.bNil, PW.bV, PW.bB, PW.bR, PW.kCall, PW.kMeth, PW.kMake, PW.oV, PW.oR, PW.oB, PW.isObj, PW.isCls, PW.wSh, PW.nFr, PW.wInO, PW.wNInO, PW.call, PW.lent, PW.lentB, PW.lentR, PW.lentOk, PW.back_nil, PW.back_v, PW.back_r, PW.back_b, PW.entry, PW.noX, PW.b2i, PW.nLc, PW.fDget, PW.fDin, PW.fDnin, PW.fDlen, PW.nDit, PW.nDic, PW.sDput, PW.putKv, PW.dKv, PW.fSortSet, PW.wMt, PW.fSIndex, PW.fSFind, PW.isStr, PW.isLst1, PW.nLc2, PW.elt1, PW.elt2, line_eq, natD, c3]
      refine ⟨d, s, 1, hd, hs, by omega, by omega, rfl, fun d1 f hd1 hf lf => ?_⟩
      simp [PW.sSeq, PW.sPass, PW.sBreak, PW.sCont, PW.sNever, PW.sExpr, PW.sSet, PW.sNew, PW.sPut, PW.sApp, PW.sFld, PW.sAsg, PW.sRet, PW.sRetN, PW.sRetF, PW.sRetO, PW.sIf, PW.sFor, PW.gN, PW.gT, PW.gUn, PW.wC, PW.wV, PW.rN, PW.rE, PW.peek, PW.wUn, PW.wBin, PW.wLk, PW.wLk2, PW.wLkR, PW.wLkB, PW.tB, PW.tTr, PW.truth, PW.tAnd, PW.tOr, PW.tNot, PW.tYes, PW.wAnd, PW.wOr, PW.wNot, PW.wIf, PW.wChain, PW.aNil, PW.aCons, PW.wTup, PW.nLst, PW.nCat, PW.nRep, PW.wPart, PW.fSl, PW.wSl, PW.nSl, PW.wSlL, PW.fAdd, PW.fSub, PW.fMul, PW.fFdiv, PW.fMod, PW.fPow, PW.fShl, PW.fShr, PW.fAnd, PW.fOr, PW.fXor, PW.fNeg, PW.fLt, PW.fLe, PW.fGt, PW.fGe, PW.fEq, PW.fNe, PW.fIsNone, PW.fIsntNone, PW.isNon, PW.fIn, PW.fNotIn, PW.fIx, PW.fLen, PW.fInt, PW.fAbs, PW.fMax2, PW.fMin2, PW.fTuple, PW.fList, PW.fMaxL, PW.fMinL, PW.fIs, PW.isTy, PW.fIsO, PW.fFld, PW.fCon, PW.fTab, PW.fInTab, PW.fNInTab, PW.plain, PW.plainL, PW.eqv, PW.eqvL, PW.small, PW.putO, PW.free, PW.isBo_sh, PW.isBo_un, PW.isBo_ow, PW.isBo_rd, PW.wipe, PW.unwipe, PW.isLst, PW.putF, PW.iSeq, PW.iStr, PW.iRng1, PW.iRng2, PW.iRngD, PW.iEnum, PW.iZip, PW.items, PW.bNil, PW.bV, PW.bB, PW.bR, PW.kCall, PW.kMeth, PW.kMake, PW.oV, PW.oR, PW.oB, PW.isObj, PW.isCls, PW.wSh, PW.nFr, PW.wInO, PW.wNInO, PW.call, PW.lent, PW.lentB, PW.lentR, PW.lentOk, PW.back_nil, PW.back_v, PW.back_r, PW.back_b, PW.entry, PW.noX, PW.b2i, PW.nLc, PW.fDget, PW.fDin, PW.fDnin, PW.fDlen, PW.nDit, PW.nDic, PW.sDput, PW.putKv, PW.dKv, PW.fSortSet, PW.wMt, PW.fSIndex, PW.fSFind, PW.isStr, PW.isLst1, PW.nLc2, PW.elt1, PW.elt2, line_eq]
      have lf' : f.length ≤ 1 := by simpa using lf
      refine ⟨by omega, d1, 3, hd1, by omega, by omega, rfl, fun d2 x hd2 x0 x1 => ?_⟩
      simp [PW.sSeq, PW.sPass, PW.sBreak, PW.sCont, PW.sNever, PW.sExpr, PW.sSet, PW.sNew, PW.sPut, PW.sApp, PW.sFld, PW.sAsg, PW.sRet, PW.sRetN, PW.sRetF, PW.sRetO, PW.sIf, PW.sFor, PW.gN, PW.gT, PW.gUn, PW.wC, PW.wV, PW.rN, PW.rE, PW.peek, PW.wUn, PW.wBin, PW.wLk, PW.wLk2, PW.wLkR, PW.wLkB, PW.tB, PW.tTr, PW.truth, PW.tAnd, PW.tOr, PW.tNot, PW.tYes, PW.wAnd, PW.wOr, PW.wNot, PW.wIf, PW.wChain, PW.aNil, PW.aCons, PW.wTup, PW.nLst, PW.nCat, PW.nRep, PW.wPart, PW.fSl, PW.wSl, PW.nSl, PW.wSlL, PW.fAdd, PW.fSub, PW.fMul, PW.fFdiv, PW.fMod, PW.fPow, PW.fShl, PW.fShr, PW.fAnd, PW.fOr, PW.fXor, PW.fNeg, PW.fLt, PW.fLe, PW.fGt, PW.fGe, PW.fEq, PW.fNe, PW.fIsNone, PW.fIsntNone, PW.isNon, PW.fIn, PW.fNotIn, PW.fIx, PW.fLen, PW.fInt, PW.fAbs, PW.fMax2, PW.fMin2, PW.fTuple, PW.fList, PW.fMaxL, PW.fMinL, PW.fIs, PW.isTy, PW.fIsO, PW.fFld, PW.fCon, PW.fTab, PW.fInTab, PW.fNInTab, PW.plain, PW.plainL, PW.eqv, PW.eqvL, PW.small, PW.putO, PW.free, PW.isBo_sh, PW.isBo_un, PW.isBo_ow, PW.isBo_rd, PW.wipe, PW.unwipe, PW.isLst, PW.putF, PW.iSeq, PW.iStr, PW.iRng1, PW.iRng2, PW.iRngD, PW.iEnum, PW.iZip, PW.items, PW.bNil, PW.bV, PW.bB, PW.bR, PW.kCall, PW.kMeth, PW.kMake, PW.oV, PW.oR, PW.oB, PW.isObj, PW.isCls, PW.wSh, PW.nFr, PW.wInO, PW.wNInO, PW.call, PW.lent, PW.lentB, PW.lentR, PW.lentOk, PW.back_nil, PW.back_v, PW.back_r, PW.back_b, PW.entry, PW.noX, PW.b2i, PW.nLc, PW.fDget, PW.fDin, PW.fDnin, PW.fDlen, PW.nDit, PW.nDic, PW.sDput, PW.putKv, PW.dKv, PW.fSortSet, PW.wMt, PW.fSIndex, PW.fSFind, PW.isStr, PW.isLst1, PW.nLc2, PW.elt1, PW.elt2, line_eq]
      refine hK _ ⟨d2, c :: f, 2 ^ r - 1 + x.toNat, hd2, over_app (a := [c]) (fun z hz => by simp at hz; subst hz; exact hc) hf, by simp, by simpa using lf', by omega, by omega, ?_⟩
      have : ((2 ^ r - 1 : Nat) : Int) + x = ((2 ^ r - 1 + x.toNat : Nat) : Int) := by omega
      simp [natD, this]
    · simp [PW.sSeq, PW.sPass, PW.sBreak, PW.sCont, PW.sNever, PW.sExpr, PW.sSet, PW.sNew, PW.sPut, PW.sApp, PW.sFld, PW.sAsg, PW.sRet, PW.sRetN, PW.sRetF, PW.sRetO, PW.sIf, PW.sFor, PW.gN, PW.gT, PW.gUn, PW.wC, PW.wV, PW.rN, PW.rE, PW.peek, PW.wUn, PW.wBin, PW.wLk, PW.wLk2, PW.wLkR, PW.wLkB, PW.tB, PW.tTr, PW.truth, PW.tAnd, PW.tOr, PW.tNot, PW.tYes, PW.wAnd, PW.wOr, PW.wNot, PW.wIf, PW.wChain, PW.aNil, PW.aCons, PW.wTup, PW.nLst, PW.nCat, PW.nRep, PW.wPart, PW.fSl, PW.wSl, PW.nSl, PW.wSlL, PW.fAdd, PW.fSub, PW.fMul, PW.fFdiv, PW.fMod, PW.fPow, PW.fShl, PW.fShr, PW.fAnd, PW.fOr, PW.fXor, PW.fNeg, PW.fLt, PW.fLe, PW.fGt, PW.fGe, PW.fEq, PW.fNe, PW.fIsNone, PW.fIsntNone, PW.isNon, PW.fIn, PW.fNotIn, PW.fIx, PW.fLen, PW.fInt, PW.fAbs, PW.fMax2, PW.fMin2, PW.fTuple, PW.fList, PW.fMaxL, PW.fMinL, PW.fIs, PW.isTy, PW.fIsO, PW.fFld, PW.fCon, PW.fTab, PW.fInTab, PW.fNInTab, PW.plain, PW.plainL, PW.eqv, PW.eqvL, PW.small, PW.putO, PW.free, PW.isBo_sh, PW.isBo_un, PW.isBo_ow, PW.isBo_rd, PW.wipe, PW.unwipe, PW.isLst, PW.putF, PW.iSeq, PW.iStr, PW.iRng1, PW.iRng2, PW.iRngD, PW.iEnum, PW.iZip, PW.items, PW.bNil, PW.bV, PW.bB, PW.bR, PW.kCall, PW.kMeth, PW.kMake, PW.oV, PW.oR, PW.oB, PW.isObj, PW.isCls, PW.wSh, PW.nFr, PW.wInO, PW.wNInO, PW.call, PW.lent, PW.lentB, PW.lentR, PW.lentOk, PW.back_nil, PW.back_v, PW.back_r, PW.back_b, PW.entry, PW.noX, PW.b2i, PW.nLc, PW.fDget, PW.fDin, PW.fDnin, PW.fDlen, PW.nDit, PW.nDic, PW.sDput, PW.putKv, PW.dKv, PW.fSortSet, PW.wMt, PW.fSIndex, PW.fSFind, PW.isStr, PW.isLst1, PW.nLc2, PW.elt1, PW.elt2, line_eq, natD, c3]
      refine ⟨d, 2, hd, by omega, by omega, rfl, fun d2 x hd2 x0 x1 => ?_⟩
      simp [PW.sSeq, PW.sPass, PW.sBreak, PW.sCont, PW.sNever, PW.sExpr, PW.sSet, PW.sNew, PW.sPut, PW.sApp, PW.sFld, PW.sAsg, PW.sRet, PW.sRetN, PW.sRetF, PW.sRetO, PW.sIf, PW.sFor, PW.gN, PW.gT, PW.gUn, PW.wC, PW.wV, PW.rN, PW.rE, PW.peek, PW.wUn, PW.wBin, PW.wLk, PW.wLk2, PW.wLkR, PW.wLkB, PW.tB, PW.tTr, PW.truth, PW.tAnd, PW.tOr, PW.tNot, PW.tYes, PW.wAnd, PW.wOr, PW.wNot, PW.wIf, PW.wChain, PW.aNil, PW.aCons, PW.wTup, PW.nLst, PW.nCat, PW.nRep, PW.wPart, PW.fSl, PW.wSl, PW.nSl, PW.wSlL, PW.fAdd, PW.fSub, PW.fMul, PW.fFdiv, PW.fMod, PW.fPow, PW.fShl, PW.fShr, PW.fAnd, PW.fOr, PW.fXor, PW.fNeg, PW.fLt, PW.fLe, PW.fGt, PW.fGe, PW.fEq, PW.fNe, PW.fIsNone, PW.fIsntNone, PW.isNon, PW.fIn, PW.fNotIn, PW.fIx, PW.fLen, PW.fInt, PW.fAbs, PW.fMax2, PW.fMin2, PW.fTuple, PW.fList, PW.fMaxL, PW.fMinL, PW.fIs, PW.isTy, PW.fIsO, PW.fFld, PW.fCon, PW.fTab, PW.fInTab, PW.fNInTab, PW.plain, PW.plainL, PW.eqv, PW.eqvL, PW.small, PW.putO, PW.free, PW.isBo_sh, PW.isBo_un, PW.isBo_ow, PW.isBo_rd, PW.wipe, PW.unwipe, PW.isLst, PW.putF, PW.iSeq, PW.iStr, PW.iRng1, PW.iRng2, PW.iRngD, PW.iEnum, PW.iZip, PW.items, PW.bNil, PW.bV, PW.bB, PW.bR, PW.kCall, PW.kMeth, PW.kMake, PW.oV, PW.oR, PW.oB, PW.isObj, PW.isCls, PW.wSh, PW.nFr, PW.wInO, PW.wNInO, PW.call, PW.lent, PW.lentB, PW.lentR, PW.lentOk, PW.back_nil, PW.back_v, PW.back_r, PW.back_b, PW.entry, PW.noX, PW.b2i, PW.nLc, PW.fDget, PW.fDin, PW.fDnin, PW.fDlen, PW.nDit, PW.nDic, PW.sDput, PW.putKv, PW.dKv, PW.fSortSet, PW.wMt, PW.fSIndex, PW.fSFind, PW.isStr, PW.isLst1, PW.nLc2, PW.elt1, PW.elt2, line_eq]
      refine hK _ ⟨d2, [c], 2 ^ r - 1 + x.toNat, hd2, fun z hz => by simp at hz; subst hz; exact hc, by simp, by simp, by omega, by omega, ?_⟩
      have : ((2 ^ r - 1 : Nat) : Int) + x = ((2 ^ r - 1 + x.toNat : Nat) : Int) := by omega
      simp [natD, this]
  rintro ρ ⟨d, l, n, hd, hl2, ll1, ll2, hn1, hn9, rfl⟩
  have lp : ∀ m, m ≤ 10 → (pw l m).length ≤ 20 := fun m hm => by
    rw [pw_len]
    have : m * l.length ≤ 10 * 2 := Nat.mul_le_mul hm ll2
    omega
  have lp9 := lp n (by omega)
  have lp10 := lp (n + 1) (by omega)
  have mul : ∀ m : Nat, m ≤ 10 → l.length * m ≤ 16777216 := fun m hm => by
    have : l.length * m ≤ 2 * 10 := Nat.mul_le_mul ll2 hm
    omega
  have mul9 := mul n (by omega)
  have mul10 := mul (n + 1) (by omega)
  refine seq_cut (fun ρ => ρ = [.bo d, .sh (.str s), .sh (natD r), .sh (.str f), .sh (.str g), .sh (.str l), .sh (natD n), .sh (.str (f ++ pw l n ++ g)), .un, .un, .un, .un]) (fun K hK => ?_) ?_
  · simp [PW.sSeq, PW.sPass, PW.sBreak, PW.sCont, PW.sNever, PW.sExpr, PW.sSet, PW.sNew, PW.sPut, PW.sApp, PW.sFld, PW.sAsg, PW.sRet, PW.sRetN, PW.sRetF, PW.sRetO, PW.sIf, PW.sFor, PW.gN, PW.gT, PW.gUn, PW.wC, PW.wV, PW.rN, PW.rE, PW.peek, PW.wUn, PW.wBin, PW.wLk, PW.wLk2, PW.wLkR, PW.wLkB, PW.tB, PW.tTr, PW.truth, PW.tAnd, PW.tOr, PW.tNot, PW.tYes, PW.wAnd, PW.wOr, PW.wNot, PW.wIf, PW.wChain, PW.aNil, PW.aCons, PW.wTup, PW.nLst, PW.nCat, PW.nRep, PW.wPart, PW.fSl, PW.wSl, PW.nSl, PW.wSlL, PW.fAdd, PW.fSub, PW.fMul, PW.fFdiv, PW.fMod, PW.fPow, PW.fShl, PW.fShr, PW.fAnd, PW.fOr, PW.fXor, PW.fNeg, PW.fLt, PW.fLe, PW.fGt, PW.fGe, PW.fEq, PW.fNe, PW.fIsNone, PW.fIsntNone, PW.isNon, PW.fIn, PW.fNotIn, PW.fIx, PW.fLen, PW.fInt, PW.fAbs, PW.fMax2, PW.fMin2, PW.fTuple, PW.fList, PW.fMaxL, PW.fMinL, PW.fIs, PW.isTy, PW.fIsO, PW.fFld, PW.fCon, PW.fTab, PW.fInTab, PW.fNInTab, PW.plain, PW.plainL, PW.eqv, PW.eqvL, PW.small, PW.putO, PW.free, PW.isBo_sh, PW.isBo_un, PW.isBo_ow, PW.isBo_rd, PW.wipe, PW.unwipe, PW.isLst, PW.putF, PW.iSeq, PW.iStr, PW.iRng1, PW.iRng2, PW.iRngD, PW.iEnum, PW.iZip, PW.items, PW.bNil, PW.bV, PW.bB, PW.bR, PW.kCall, PW.kMeth, PW.kMake, PW.oV, PW.oR, PW.oB, PW.isObj, PW.isCls, PW.wSh, PW.nFr, PW.wInO, PW.wNInO, PW.call, PW.lent, PW.lentB, PW.lentR, PW.lentOk, PW.back_nil, PW.back_v, PW.back_r, PW.back_b, PW.entry, PW.noX, PW.b2i, PW.nLc, PW.fDget, PW.fDin, PW.fDnin, PW.fDlen, PW.nDit, PW.nDic, PW.sDput, PW.putKv, PW.dKv, PW.fSortSet, PW.wMt, PW.fSIndex, PW.fSFind, PW.isStr, PW.isLst1, PW.nLc2, PW.elt1, PW.elt2, line_eq, natD, repL_pw]
    refine ⟨⟨by omega, mul9⟩, by omega, by omega, hK _ (by simp [natD])⟩
  rintro ρ rfl
  refine seq_cut (fun ρ => ρ = [.bo d, .sh (.str s), .sh (natD r), .sh (.str f), .sh (.str g), .sh (.str l), .sh (natD n), .sh (.str (f ++ pw l n ++ g)), .sh (.str (f ++ pw l (n + 1) ++ g)), .un, .un, .un]) (fun K hK => ?_) ?_
  · have e : ((n : Int) + 1).toNat = n + 1 := by omega
    simp [PW.sSeq, PW.sPass, PW.sBreak, PW.sCont, PW.sNever, PW.sExpr, PW.sSet, PW.sNew, PW.sPut, PW.sApp, PW.sFld, PW.sAsg, PW.sRet, PW.sRetN, PW.sRetF, PW.sRetO, PW.sIf, PW.sFor, PW.gN, PW.gT, PW.gUn, PW.wC, PW.wV, PW.rN, PW.rE, PW.peek, PW.wUn, PW.wBin, PW.wLk, PW.wLk2, PW.wLkR, PW.wLkB, PW.tB, PW.tTr, PW.truth, PW.tAnd, PW.tOr, PW.tNot, PW.tYes, PW.wAnd, PW.wOr, PW.wNot, PW.wIf, PW.wChain, PW.aNil, PW.aCons, PW.wTup, PW.nLst, PW.nCat, PW.nRep, PW.wPart, PW.fSl, PW.wSl, PW.nSl, PW.wSlL, PW.fAdd, PW.fSub, PW.fMul, PW.fFdiv, PW.fMod, PW.fPow, PW.fShl, PW.fShr, PW.fAnd, PW.fOr, PW.fXor, PW.fNeg, PW.fLt, PW.fLe, PW.fGt, PW.fGe, PW.fEq, PW.fNe, PW.fIsNone, PW.fIsntNone, PW.isNon, PW.fIn, PW.fNotIn, PW.fIx, PW.fLen, PW.fInt, PW.fAbs, PW.fMax2, PW.fMin2, PW.fTuple, PW.fList, PW.fMaxL, PW.fMinL, PW.fIs, PW.isTy, PW.fIsO, PW.fFld, PW.fCon, PW.fTab, PW.fInTab, PW.fNInTab, PW.plain, PW.plainL, PW.eqv, PW.eqvL, PW.small, PW.putO, PW.free, PW.isBo_sh, PW.isBo_un, PW.isBo_ow, PW.isBo_rd, PW.wipe, PW.unwipe, PW.isLst, PW.putF, PW.iSeq, PW.iStr, PW.iRng1, PW.iRng2, PW.iRngD, PW.iEnum, PW.iZip, PW.items, PW.bNil, PW.bV, PW.bB, PW.bR, PW.kCall, PW.kMeth, PW.kMake, PW.oV, PW.oR, PW.oB, PW.isObj, PW.isCls, PW.wSh, PW.nFr, PW.wInO, PW.wNInO, PW.call, PW.lent, PW.lentB, PW.lentR, PW.lentOk, PW.back_nil, PW.back_v, PW.back_r, PW.back_b, PW.entry, PW.noX, PW.b2i, PW.nLc, PW.fDget, PW.fDin, PW.fDnin, PW.fDlen, PW.nDit, PW.nDic, PW.sDput, PW.putKv, PW.dKv, PW.fSortSet, PW.wMt, PW.fSIndex, PW.fSFind, PW.isStr, PW.isLst1, PW.nLc2, PW.elt1, PW.elt2, line_eq, natD, repL_pw, e]
    refine ⟨⟨by omega, mul10⟩, by omega, by omega, hK _ (by simp [natD])⟩
  rintro ρ rfl
  have o1 : Over s (f ++ pw l n ++ g) := over_app (over_app hf (hl2.pw n)) hg
  have o2 : Over s (f ++ pw l (n + 1) ++ g) := over_app (over_app hf (hl2.pw (n + 1))) hg
  have len1 : (f ++ pw l n ++ g).length ≤ 22 := by simp only [List.length_append]; omega
  have len2 : (f ++ pw l (n + 1) ++ g).length ≤ 22 := by simp only [List.length_append]; omega
  have al : Al r (f ++ pw l n ++ g) (f ++ pw l (n + 1) ++ g) := one_al f l g hn1 (by omega)
  generalize f ++ pw l n ++ g = one at *
  generalize f ++ pw l (n + 1) ++ g = other at *
  refine seq_cut (fun ρ => ρ = [.bo d, .sh (.str s), .sh (natD r), .sh (.str f), .sh (.str g), .sh (.str l), .sh (natD n), .sh (.str one), .sh (.str other), .un, .un, .un]) (fun K hK => ?_) ?_
  · simp [PW.sSeq, PW.sPass, PW.sBreak, PW.sCont, PW.sNever, PW.sExpr, PW.sSet, PW.sNew, PW.sPut, PW.sApp, PW.sFld, PW.sAsg, PW.sRet, PW.sRetN, PW.sRetF, PW.sRetO, PW.sIf, PW.sFor, PW.gN, PW.gT, PW.gUn, PW.wC, PW.wV, PW.rN, PW.rE, PW.peek, PW.wUn, PW.wBin, PW.wLk, PW.wLk2, PW.wLkR, PW.wLkB, PW.tB, PW.tTr, PW.truth, PW.tAnd, PW.tOr, PW.tNot, PW.tYes, PW.wAnd, PW.wOr, PW.wNot, PW.wIf, PW.wChain, PW.aNil, PW.aCons, PW.wTup, PW.nLst, PW.nCat, PW.nRep, PW.wPart, PW.fSl, PW.wSl, PW.nSl, PW.wSlL, PW.fAdd, PW.fSub, PW.fMul, PW.fFdiv, PW.fMod, PW.fPow, PW.fShl, PW.fShr, PW.fAnd, PW.fOr, PW.fXor, PW.fNeg, PW.fLt, PW.fLe, PW.fGt, PW.fGe, PW.fEq, PW.fNe, PW.fIsNone, PW.fIsntNone, PW.isNon, PW.fIn, PW.fNotIn, PW.fIx, PW.fLen, PW.fInt, PW.fAbs, PW.fMax2, PW.fMin2, PW.fTuple, PW.fList, PW.fMaxL, PW.fMinL, PW.fIs, PW.isTy, PW.fIsO, PW.fFld, PW.fCon, PW.fTab, PW.fInTab, PW.fNInTab, PW.plain, PW.plainL, PW.eqv, PW.eqvL, PW.small, PW.putO, PW.free, PW.isBo_sh, PW.isBo_un, PW.isBo_ow, PW.isBo_rd, PW.wipe, PW.unwipe, PW.isLst, PW.putF, PW.iSeq, PW.iStr, PW.iRng1, PW.iRng2, PW.iRngD, PW.iEnum, PW.iZip, PW.items, PW.bNil, PW.bV, PW.bB, PW.bR, PW.kCall, PW.kMeth, PW.kMake, PW.oV, PW.oR, PW.oB, PW.isObj, PW.isCls, PW.wSh, PW.nFr, PW.wInO, PW.wNInO, PW.call, PW.lent, PW.lentB, PW.lentR, PW.lentOk, PW.back_nil, PW.back_v, PW.back_r, PW.back_b, PW.entry, PW.noX, PW.b2i, PW.nLc, PW.fDget, PW.fDin, PW.fDnin, PW.fDlen, PW.nDit, PW.nDic, PW.sDput, PW.putKv, PW.dKv, PW.fSortSet, PW.wMt, PW.fSIndex, PW.fSFind, PW.isStr, PW.isLst1, PW.nLc2, PW.elt1, PW.elt2, line_eq]
    refine ⟨s, one, other, r, hs, o1, o2, by omega, by omega, hr, rfl, fun b os hb => ?_⟩
    simp [PW.sSeq, PW.sPass, PW.sBreak, PW.sCont, PW.sNever, PW.sExpr, PW.sSet, PW.sNew, PW.sPut, PW.sApp, PW.sFld, PW.sAsg, PW.sRet, PW.sRetN, PW.sRetF, PW.sRetO, PW.sIf, PW.sFor, PW.gN, PW.gT, PW.gUn, PW.wC, PW.wV, PW.rN, PW.rE, PW.peek, PW.wUn, PW.wBin, PW.wLk, PW.wLk2, PW.wLkR, PW.wLkB, PW.tB, PW.tTr, PW.truth, PW.tAnd, PW.tOr, PW.tNot, PW.tYes, PW.wAnd, PW.wOr, PW.wNot, PW.wIf, PW.wChain, PW.aNil, PW.aCons, PW.wTup, PW.nLst, PW.nCat, PW.nRep, PW.wPart, PW.fSl, PW.wSl, PW.nSl, PW.wSlL, PW.fAdd, PW.fSub, PW.fMul, PW.fFdiv, PW.fMod, PW.fPow, PW.fShl, PW.fShr, PW.fAnd, PW.fOr, PW.fXor, PW.fNeg, PW.fLt, PW.fLe, PW.fGt, PW.fGe, PW.fEq, PW.fNe, PW.fIsNone, PW.fIsntNone, PW.isNon, PW.fIn, PW.fNotIn, PW.fIx, PW.fLen, PW.fInt, PW.fAbs, PW.fMax2, PW.fMin2, PW.fTuple, PW.fList, PW.fMaxL, PW.fMinL, PW.fIs, PW.isTy, PW.fIsO, PW.fFld, PW.fCon, PW.fTab, PW.fInTab, PW.fNInTab, PW.plain, PW.plainL, PW.eqv, PW.eqvL, PW.small, PW.putO, PW.free, PW.isBo_sh, PW.isBo_un, PW.isBo_ow, PW.isBo_rd, PW.wipe, PW.unwipe, PW.isLst, PW.putF, PW.iSeq, PW.iStr, PW.iRng1, PW.iRng2, PW.iRngD, PW.iEnum, PW.iZip, PW.items, PW.bNil, PW.bV, PW.bB, PW.bR, PW.kCall, PW.kMeth, PW.kMake, PW.oV, PW.oR, PW.oB, PW.isObj, PW.isCls, PW.wSh, PW.nFr, PW.wInO, PW.wNInO, PW.call, PW.lent, PW.lentB, PW.lentR, PW.lentOk, PW.back_nil, PW.back_v, PW.back_r, PW.back_b, PW.entry, PW.noX, PW.b2i, PW.nLc, PW.fDget, PW.fDin, PW.fDnin, PW.fDlen, PW.nDit, PW.nDic, PW.sDput, PW.putKv, PW.dKv, PW.fSortSet, PW.wMt, PW.fSIndex, PW.fSFind, PW.isStr, PW.isLst1, PW.nLc2, PW.elt1, PW.elt2, line_eq]
    have : b = true := hb.mpr al
    subst this
    refine same_bl true fun os => ?_
    simp [PW.sSeq, PW.sPass, PW.sBreak, PW.sCont, PW.sNever, PW.sExpr, PW.sSet, PW.sNew, PW.sPut, PW.sApp, PW.sFld, PW.sAsg, PW.sRet, PW.sRetN, PW.sRetF, PW.sRetO, PW.sIf, PW.sFor, PW.gN, PW.gT, PW.gUn, PW.wC, PW.wV, PW.rN, PW.rE, PW.peek, PW.wUn, PW.wBin, PW.wLk, PW.wLk2, PW.wLkR, PW.wLkB, PW.tB, PW.tTr, PW.truth, PW.tAnd, PW.tOr, PW.tNot, PW.tYes, PW.wAnd, PW.wOr, PW.wNot, PW.wIf, PW.wChain, PW.aNil, PW.aCons, PW.wTup, PW.nLst, PW.nCat, PW.nRep, PW.wPart, PW.fSl, PW.wSl, PW.nSl, PW.wSlL, PW.fAdd, PW.fSub, PW.fMul, PW.fFdiv, PW.fMod, PW.fPow, PW.fShl, PW.fShr, PW.fAnd, PW.fOr, PW.fXor, PW.fNeg, PW.fLt, PW.fLe, PW.fGt, PW.fGe, PW.fEq, PW.fNe, PW.fIsNone, PW.fIsntNone, PW.isNon, PW.fIn, PW.fNotIn, PW.fIx, PW.fLen, PW.fInt, PW.fAbs, PW.fMax2, PW.fMin2, PW.fTuple, PW.fList, PW.fMaxL, PW.fMinL, PW.fIs, PW.isTy, PW.fIsO, PW.fFld, PW.fCon, PW.fTab, PW.fInTab, PW.fNInTab, PW.plain, PW.plainL, PW.eqv, PW.eqvL, PW.small, PW.putO, PW.free, PW.isBo_sh, PW.isBo_un, PW.isBo_ow, PW.isBo_rd, PW.wipe, PW.unwipe, PW.isLst, PW.putF, PW.iSeq, PW.iStr, PW.iRng1, PW.iRng2, PW.iRngD, PW.iEnum, PW.iZip, PW.items, PW.bNil, PW.bV, PW.bB, PW.bR, PW.kCall, PW.kMeth, PW.kMake, PW.oV, PW.oR, PW.oB, PW.isObj, PW.isCls, PW.wSh, PW.nFr, PW.wInO, PW.wNInO, PW.call, PW.lent, PW.lentB, PW.lentR, PW.lentOk, PW.back_nil, PW.back_v, PW.back_r, PW.back_b, PW.entry, PW.noX, PW.b2i, PW.nLc, PW.fDget, PW.fDin, PW.fDnin, PW.fDlen, PW.nDit, PW.nDic, PW.sDput, PW.putKv, PW.dKv, PW.fSortSet, PW.wMt, PW.fSIndex, PW.fSFind, PW.isStr, PW.isLst1, PW.nLc2, PW.elt1, PW.elt2]
    exact hK _ rfl
  rintro ρ rfl
  refine seq_cut (fun ρ => ∃ d c, IsSt d ∧ c ∈ s ∧ ρ = [.bo d, .sh (.str s), .sh (natD r), .sh (.str f), .sh (.str g), .sh (.str l), .sh (natD n), .sh (.str one), .sh (.str other), .sh (.str (pw [c] n)), .un, .un]) (fun K hK => ?_) ?_
  · simp [PW.sSeq, PW.sPass, PW.sBreak, PW.sCont, PW.sNever, PW.sExpr, PW.sSet, PW.sNew, PW.sPut, PW.sApp, PW.sFld, PW.sAsg, PW.sRet, PW.sRetN, PW.sRetF, PW.sRetO, PW.sIf, PW.sFor, PW.gN, PW.gT, PW.gUn, PW.wC, PW.wV, PW.rN, PW.rE, PW.peek, PW.wUn, PW.wBin, PW.wLk, PW.wLk2, PW.wLkR, PW.wLkB, PW.tB, PW.tTr, PW.truth, PW.tAnd, PW.tOr, PW.tNot, PW.tYes, PW.wAnd, PW.wOr, PW.wNot, PW.wIf, PW.wChain, PW.aNil, PW.aCons, PW.wTup, PW.nLst, PW.nCat, PW.nRep, PW.wPart, PW.fSl, PW.wSl, PW.nSl, PW.wSlL, PW.fAdd, PW.fSub, PW.fMul, PW.fFdiv, PW.fMod, PW.fPow, PW.fShl, PW.fShr, PW.fAnd, PW.fOr, PW.fXor, PW.fNeg, PW.fLt, PW.fLe, PW.fGt, PW.fGe, PW.fEq, PW.fNe, PW.fIsNone, PW.fIsntNone, PW.isNon, PW.fIn, PW.fNotIn, PW.fIx, PW.fLen, PW.fInt, PW.fAbs, PW.fMax2, PW.fMin2, PW.fTuple, PW.fList, PW.fMaxL, PW.fMinL, PW.fIs, PW.isTy, PW.fIsO, PW.fFld, PW.fCon, PW.fTab, PW.fInTab, PW.fNInTab, PW.plain, PW.plainL, PW.eqv, PW.eqvL, PW.small, PW.putO, PW.free, PW.isBo_sh, PW.isBo_un, PW.isBo_ow, PW.isBo_rd, PW.wipe, PW.unwipe, PW.isLst, PW.putF, PW.iSeq, PW.iStr, PW.iRng1, PW.iRng2, PW.iRngD, PW.iEnum, PW.iZip, PW.items, PW.bNil, PW.bV, PW.bB, PW.bR, PW.kCall, PW.kMeth, PW.kMake, PW.oV, PW.oR, PW.oB, PW.isObj, PW.isCls, PW.wSh, PW.nFr, PW.wInO, PW.wNInO, PW.call, PW.lent, PW.lentB, PW.lentR, PW.lentOk, PW.back_nil, PW.back_v, PW.back_r, PW.back_b, PW.entry, PW.noX, PW.b2i, PW.nLc, PW.fDget, PW.fDin, PW.fDnin, PW.fDlen, PW.nDit, PW.nDic, PW.sDput, PW.putKv, PW.dKv, PW.fSortSet, PW.wMt, PW.fSIndex, PW.fSFind, PW.isStr, PW.isLst1, PW.nLc2, PW.elt1, PW.elt2, line_eq, hl, natD]
    refine ⟨d, s.length, hd, by omega, by omega, rfl, fun d1 x hd1 x0 x1 => ?_⟩
    obtain ⟨c, hc, e⟩ := letter x x0 x1
    simp [PW.sSeq, PW.sPass, PW.sBreak, PW.sCont, PW.sNever, PW.sExpr, PW.sSet, PW.sNew, PW.sPut, PW.sApp, PW.sFld, PW.sAsg, PW.sRet, PW.sRetN, PW.sRetF, PW.sRetO, PW.sIf, PW.sFor, PW.gN, PW.gT, PW.gUn, PW.wC, PW.wV, PW.rN, PW.rE, PW.peek, PW.wUn, PW.wBin, PW.wLk, PW.wLk2, PW.wLkR, PW.wLkB, PW.tB, PW.tTr, PW.truth, PW.tAnd, PW.tOr, PW.tNot, PW.tYes, PW.wAnd, PW.wOr, PW.wNot, PW.wIf, PW.wChain, PW.aNil, PW.aCons, PW.wTup, PW.nLst, PW.nCat, PW.nRep, PW.wPart, PW.fSl, PW.wSl, PW.nSl, PW.wSlL, PW.fAdd, PW.fSub, PW.fMul, PW.fFdiv, PW.fMod, PW.fPow, PW.fShl, PW.fShr, PW.fAnd, PW.fOr, PW.fXor, PW.fNeg, PW.fLt, PW.fLe, PW.fGt, PW.fGe, PW.fEq, PW.fNe, PW.fIsNone, PW.fIsntNone, PW.isNon, PW.fIn, PW.fNotIn, PW.fIx, PW.fLen, PW.fInt, PW.fAbs, PW.fMax2, PW.fMin2, PW.fTuple, PW.fList, PW.fMaxL, PW.fMinL, PW.fIs, PW.isTy, PW.fIsO, PW.fFld, PW.fCon, PW.fTab, PW.fInTab, PW.fNInTab, PW.plain, PW.plainL, PW.eqv, PW.eqvL, PW.small, PW.putO, PW.free, PW.isBo_sh, PW.isBo_un, PW.isBo_ow, PW.isBo_rd, PW.wipe, PW.unwipe, PW.isLst, PW.putF, PW.iSeq, PW.iStr, PW.iRng1, PW.iRng2, PW.iRngD, PW.iEnum, PW.iZip, PW.items, PW.bNil, PW.bV, PW.bB, PW.bR, PW.kCall, PW.kMeth, PW.kMake, PW.oV, PW.oR, PW.oB, PW.isObj, PW.isCls, PW.wSh, PW.nFr, PW.wInO, PW.wNInO, PW.call, PW.lent, PW.lentB, PW.lentR, PW.lentOk, PW.back_nil, PW.back_v, PW.back_r, PW.back_b, PW.entry, PW.noX, PW.b2i, PW.nLc, PW.fDget, PW.fDin, PW.fDnin, PW.fDlen, PW.nDit, PW.nDic, PW.sDput, PW.putKv, PW.dKv, PW.fSortSet, PW.wMt, PW.fSIndex, PW.fSFind, PW.isStr, PW.isLst1, PW.nLc2, PW.elt1, PW.elt2, line_eq, e, repL_pw]
    exact ⟨hl, ⟨by omega, by omega⟩, hK _ ⟨d1, c, hd1, hc, rfl⟩⟩
  rintro ρ ⟨d, c2, hd, hc2, rfl⟩
  have otail : Over s (pw [c2] n) := Over.pw (fun z hz => by simp at hz; subst hz; exact hc2) n
  have ltail : (pw [c2] n).length = n := by rw [pw_len]; simp
  refine seq_cut (fun ρ => ∃ lo, Over s lo ∧ lo.length ≤ n + 1 ∧ Al r (pw [c2] n) lo ∧ ρ = [.bo d, .sh (.str s), .sh (natD r), .sh (.str f), .sh (.str g), .sh (.str l), .sh (natD n), .sh (.str one), .sh (.str other), .sh (.str (pw [c2] n)), .sh (.str lo), .un]) (fun K hK => ?_) ?_
  · simp [PW.sSeq, PW.sPass, PW.sBreak, PW.sCont, PW.sNever, PW.sExpr, PW.sSet, PW.sNew, PW.sPut, PW.sApp, PW.sFld, PW.sAsg, PW.sRet, PW.sRetN, PW.sRetF, PW.sRetO, PW.sIf, PW.sFor, PW.gN, PW.gT, PW.gUn, PW.wC, PW.wV, PW.rN, PW.rE, PW.peek, PW.wUn, PW.wBin, PW.wLk, PW.wLk2, PW.wLkR, PW.wLkB, PW.tB, PW.tTr, PW.truth, PW.tAnd, PW.tOr, PW.tNot, PW.tYes, PW.wAnd, PW.wOr, PW.wNot, PW.wIf, PW.wChain, PW.aNil, PW.aCons, PW.wTup, PW.nLst, PW.nCat, PW.nRep, PW.wPart, PW.fSl, PW.wSl, PW.nSl, PW.wSlL, PW.fAdd, PW.fSub, PW.fMul, PW.fFdiv, PW.fMod, PW.fPow, PW.fShl, PW.fShr, PW.fAnd, PW.fOr, PW.fXor, PW.fNeg, PW.fLt, PW.fLe, PW.fGt, PW.fGe, PW.fEq, PW.fNe, PW.fIsNone, PW.fIsntNone, PW.isNon, PW.fIn, PW.fNotIn, PW.fIx, PW.fLen, PW.fInt, PW.fAbs, PW.fMax2, PW.fMin2, PW.fTuple, PW.fList, PW.fMaxL, PW.fMinL, PW.fIs, PW.isTy, PW.fIsO, PW.fFld, PW.fCon, PW.fTab, PW.fInTab, PW.fNInTab, PW.plain, PW.plainL, PW.eqv, PW.eqvL, PW.small, PW.putO, PW.free, PW.isBo_sh, PW.isBo_un, PW.isBo_ow, PW.isBo_rd, PW.wipe, PW.unwipe, PW.isLst, PW.putF, PW.iSeq, PW.iStr, PW.iRng1, PW.iRng2, PW.iRngD, PW.iEnum, PW.iZip, PW.items, PW.bNil, PW.bV, PW.bB, PW.bR, PW.kCall, PW.kMeth, PW.kMake, PW.oV, PW.oR, PW.oB, PW.isObj, PW.isCls, PW.wSh, PW.nFr, PW.wInO, PW.wNInO, PW.call, PW.lent, PW.lentB, PW.lentR, PW.lentOk, PW.back_nil, PW.back_v, PW.back_r, PW.back_b, PW.entry, PW.noX, PW.b2i, PW.nLc, PW.fDget, PW.fDin, PW.fDnin, PW.fDlen, PW.nDit, PW.nDic, PW.sDput, PW.putKv, PW.dKv, PW.fSortSet, PW.wMt, PW.fSIndex, PW.fSFind, PW.isStr, PW.isLst1, PW.nLc2, PW.elt1, PW.elt2, line_eq, natD, ltail]
    have lc : (cut (pw [c2] n) none (some 1)).length ≤ 1 := by
      simp [cut, sIx]; omega
    refine ⟨by omega, by omega, hK _ ⟨_, over_app otail (fun z hz => ?_), by simp only [List.length_append, ltail]; omega, ?_, rfl⟩⟩
    · simp only [cut] at hz
      exact otail z (List.mem_of_mem_drop (List.mem_of_mem_take hz))
    · cases n with
      | zero => exact Al.refl _ _
      | succ n =>
        have e : cut (pw [c2] (n + 1)) none (some 1) = [c2] := by
          simp [cut, sIx, pw]
        rw [e]
        have e2 : pw [c2] (n + 1) ++ [c2] = pw [c2] (n + 2) := by
          have := pw_add [c2] (n + 1) 1
          simpa [pw] using this.symm
        rw [e2]
        exact pow_al _ _ _ _ hn1 (by omega)
  rintro ρ ⟨lo, olo, llo, allo, rfl⟩
  refine seq_cut (fun ρ => ∃ d t lo, IsSt d ∧ Over s t ∧ Over s lo ∧ t.length ≤ 10 ∧ lo.length ≤ 10 ∧ Al r t lo ∧ ρ = [.bo d, .sh (.str s), .sh (natD r), .sh (.str f), .sh (.str g), .sh (.str l), .sh (natD n), .sh (.str one), .sh (.str other), .sh (.str t), .sh (.str lo), .un]) (fun K hK => ?_) ?_
  · by_cases c3 : (r : Int) = 3
    · simp [PW.sSeq, PW.sPass, PW.sBreak, PW.sCont, PW.sNever, PW.sExpr, PW.sSet, PW.sNew, PW.sPut, PW.sApp, PW.sFld, PW.sAsg, PW.sRet, PW.sRetN, PW.sRetF, PW.sRetO, PW.sIf, PW.sFor, PW.gN, PW.gT, PW.gUn, PW.wC, PW.wV, PW.rN, PW.rE, PW.peek, PW.wUn, PW.wBin, PW.wLk, PW.wLk2, PW.wLkR, PW.wLkB, PW.tB, PW.tTr, PW.truth, PW.tAnd, PW.tOr, PW.tNot, PW.tYes, PW.wAnd, PW.wOr, PW.wNot, PW.wIf, PW.wChain, PW.aNil, PW.aCons, PW.wTup, PW.nLst, PW.nCat, PW.nRep, PW.wPart, PW.fSl, PW.wSl, PW.nSl, PW.wSlL, PW.fAdd, PW.fSub, PW.fMul, PW.fFdiv, PW.fMod, PW.fPow, PW.fShl, PW.fShr, PW.fAnd, PW.fOr, PW.fXor, PW.fNeg, PW.fLt, PW.fLe, PW.fGt, PW.fGe, PW.fEq, PW.fNe, PW.fIsNone, PW.fIsntNone, PW.isNon, PW.fIn, PW.fNotIn, PW.fIx, PW.fLen, PW.fInt, PW.fAbs, PW.fMax2, PW.fMin2, PW.fTuple, PW.fList, PW.fMaxL, PW.fMinL, PW.fIs, PW.isTy, PW.fIsO, PW.fFld, PW.fCon, PW.fTab, PW.fInTab, PW.fNInTab, PW.plain, PW.plainL, PW.eqv, PW.eqvL, PW.small, PW.putO, PW.free, PW.isBo_sh, PW.isBo_un, PW.isBo_ow, PW.isBo_rd, PW.wipe, PW.unwipe, PW.isLst, PW.putF, PW.iSeq, PW.iStr, PW.iRng1, PW.iRng2, PW.iRngD, PW.iEnum, PW.iZip, PW.items, PW.bNil, PW.bV, PW.bB, PW.bR, PW.kCall, PW.kMeth, PW.kMake, PW.oV, PW.oR, PW.oB, PW.isObj, PW.isCls, PW.wSh, PW.nFr, PW.wInO, PW.wNInO, PW.call, PW.lent, PW.lentB, PW.lentR, PW.lentOk, PW.back_nil, PW.back_v, PW.back_r, PW.back_b, PW.entry, PW.noX, PW.b2i, PW.nLc, PW.fDget, PW.fDin, PW.fDnin, PW.fDlen, PW.nDit, PW.nDic, PW.sDput, PW.putKv, PW.dKv, PW.fSortSet, PW.wMt, PW.fSIndex, PW.fSFind, PW.isStr, PW.isLst1, PW.nLc2, PW.elt1, PW.elt2, line_eq, natD, c3]
      refine ⟨d, s, 2, hd, hs, by omega, by omega, rfl, fun d1 f hd1 hf lf => ?_⟩
      simp [PW.sSeq, PW.sPass, PW.sBreak, PW.sCont, PW.sNever, PW.sExpr, PW.sSet, PW.sNew, PW.sPut, PW.sApp, PW.sFld, PW.sAsg, PW.sRet, PW.sRetN, PW.sRetF, PW.sRetO, PW.sIf, PW.sFor, PW.gN, PW.gT, PW.gUn, PW.wC, PW.wV, PW.rN, PW.rE, PW.peek, PW.wUn, PW.wBin, PW.wLk, PW.wLk2, PW.wLkR, PW.wLkB, PW.tB, PW.tTr, PW.truth, PW.tAnd, PW.tOr, PW.tNot, PW.tYes, PW.wAnd, PW.wOr, PW.wNot, PW.wIf, PW.wChain, PW.aNil, PW.aCons, PW.wTup, PW.nLst, PW.nCat, PW.nRep, PW.wPart, PW.fSl, PW.wSl, PW.nSl, PW.wSlL, PW.fAdd, PW.fSub, PW.fMul, PW.fFdiv, PW.fMod, PW.fPow, PW.fShl, PW.fShr, PW.fAnd, PW.fOr, PW.fXor, PW.fNeg, PW.fLt, PW.fLe, PW.fGt, PW.fGe, PW.fEq, PW.fNe, PW.fIsNone, PW.fIsntNone, PW.isNon, PW.fIn, PW.fNotIn, PW.fIx, PW.fLen, PW.fInt, PW.fAbs, PW.fMax2, PW.fMin2, PW.fTuple, PW.fList, PW.fMaxL, PW.fMinL, PW.fIs, PW.isTy, PW.fIsO, PW.fFld, PW.fCon, PW.fTab, PW.fInTab, PW.fNInTab, PW.plain, PW.plainL, PW.eqv, PW.eqvL, PW.small, PW.putO, PW.free, PW.isBo_sh, PW.isBo_un, PW.isBo_ow, PW.isBo_rd, PW.wipe, PW.unwipe, PW.isLst, PW.putF, PW.iSeq, PW.iStr, PW.iRng1, PW.iRng2, PW.iRngD, PW.iEnum, PW.iZip, PW.items, PW.bNil, PW.bV, PW.bB, PW.bR, PW.kCall, PW.kMeth, PW.kMake, PW.oV, PW.oR, PW.oB, PW.isObj, PW.isCls, PW.wSh, PW.nFr, PW.wInO, PW.wNInO, PW.call, PW.lent, PW.lentB, PW.lentR, PW.lentOk, PW.back_nil, PW.back_v, PW.back_r, PW.back_b, PW.entry, PW.noX, PW.b2i, PW.nLc, PW.fDget, PW.fDin, PW.fDnin, PW.fDlen, PW.nDit, PW.nDic, PW.sDput, PW.putKv, PW.dKv, PW.fSortSet, PW.wMt, PW.fSIndex, PW.fSFind, PW.isStr, PW.isLst1, PW.nLc2, PW.elt1, PW.elt2, line_eq]
      have lf' : f.length ≤ 2 := by simpa using lf
      exact hK _ ⟨d1, f, f, hd1, hf, hf, by omega, by omega, Al.refl _ _, by simp [natD, c3]⟩
    · simp [PW.sSeq, PW.sPass, PW.sBreak, PW.sCont, PW.sNever, PW.sExpr, PW.sSet, PW.sNew, PW.sPut, PW.sApp, PW.sFld, PW.sAsg, PW.sRet, PW.sRetN, PW.sRetF, PW.sRetO, PW.sIf, PW.sFor, PW.gN, PW.gT, PW.gUn, PW.wC, PW.wV, PW.rN, PW.rE, PW.peek, PW.wUn, PW.wBin, PW.wLk, PW.wLk2, PW.wLkR, PW.wLkB, PW.tB, PW.tTr, PW.truth, PW.tAnd, PW.tOr, PW.tNot, PW.tYes, PW.wAnd, PW.wOr, PW.wNot, PW.wIf, PW.wChain, PW.aNil, PW.aCons, PW.wTup, PW.nLst, PW.nCat, PW.nRep, PW.wPart, PW.fSl, PW.wSl, PW.nSl, PW.wSlL, PW.fAdd, PW.fSub, PW.fMul, PW.fFdiv, PW.fMod, PW.fPow, PW.fShl, PW.fShr, PW.fAnd, PW.fOr, PW.fXor, PW.fNeg, PW.fLt, PW.fLe, PW.fGt, PW.fGe, PW.fEq, PW.fNe, PW.fIsNone, PW.fIsntNone, PW.isNon, PW.fIn, PW.fNotIn, PW.fIx, PW.fLen, PW.fInt, PW.fAbs, PW.fMax2, PW.fMin2, PW.fTuple, PW.fList, PW.fMaxL, PW.fMinL, PW.fIs, PW.isTy, PW.fIsO, PW.fFld, PW.fCon, PW.fTab, PW.fInTab, PW.fNInTab, PW.plain, PW.plainL, PW.eqv, PW.eqvL, PW.small, PW.putO, PW.free, PW.isBo_sh, PW.isBo_un, PW.isBo_ow, PW.isBo_rd, PW.wipe, PW.unwipe, PW.isLst, PW.putF, PW.iSeq, PW.iStr, PW.iRng1, PW.iRng2, PW.iRngD, PW.iEnum, PW.iZip, PW.items, PW.bNil, PW.bV, PW.bB, PW.bR, PW.kCall, PW.kMeth, PW.kMake, PW.oV, PW.oR, PW.oB, PW.isObj, PW.isCls, PW.wSh, PW.nFr, PW.wInO, PW.wNInO, PW.call, PW.lent, PW.lentB, PW.lentR, PW.lentOk, PW.back_nil, PW.back_v, PW.back_r, PW.back_b, PW.entry, PW.noX, PW.b2i, PW.nLc, PW.fDget, PW.fDin, PW.fDnin, PW.fDlen, PW.nDit, PW.nDic, PW.sDput, PW.putKv, PW.dKv, PW.fSortSet, PW.wMt, PW.fSIndex, PW.fSFind, PW.isStr, PW.isLst1, PW.nLc2, PW.elt1, PW.elt2, line_eq, natD, c3]
      exact hK _ ⟨d, _, lo, hd, otail, olo, by omega, by omega, allo, rfl⟩
  rintro ρ ⟨d, t, lo, hd, ot, olo, lt, llo, allo, rfl⟩
  simp [PW.sSeq, PW.sPass, PW.sBreak, PW.sCont, PW.sNever, PW.sExpr, PW.sSet, PW.sNew, PW.sPut, PW.sApp, PW.sFld, PW.sAsg, PW.sRet, PW.sRetN, PW.sRetF, PW.sRetO, PW.sIf, PW.sFor, PW.gN, PW.gT, PW.gUn, PW.wC, PW.wV, PW.rN, PW.rE, PW.peek, PW.wUn, PW.wBin, PW.wLk, PW.wLk2, PW.wLkR, PW.wLkB, PW.tB, PW.tTr, PW.truth, PW.tAnd, PW.tOr, PW.tNot, PW.tYes, PW.wAnd, PW.wOr, PW.wNot, PW.wIf, PW.wChain, PW.aNil, PW.aCons, PW.wTup, PW.nLst, PW.nCat, PW.nRep, PW.wPart, PW.fSl, PW.wSl, PW.nSl, PW.wSlL, PW.fAdd, PW.fSub, PW.fMul, PW.fFdiv, PW.fMod, PW.fPow, PW.fShl, PW.fShr, PW.fAnd, PW.fOr, PW.fXor, PW.fNeg, PW.fLt, PW.fLe, PW.fGt, PW.fGe, PW.fEq, PW.fNe, PW.fIsNone, PW.fIsntNone, PW.isNon, PW.fIn, PW.fNotIn, PW.fIx, PW.fLen, PW.fInt, PW.fAbs, PW.fMax2, PW.fMin2, PW.fTuple, PW.fList, PW.fMaxL, PW.fMinL, PW.fIs, PW.isTy, PW.fIsO, PW.fFld, PW.fCon, PW.fTab, PW.fInTab, PW.fNInTab, PW.plain, PW.plainL, PW.eqv, PW.eqvL, PW.small, PW.putO, PW.free, PW.isBo_sh, PW.isBo_un, PW.isBo_ow, PW.isBo_rd, PW.wipe, PW.unwipe, PW.isLst, PW.putF, PW.iSeq, PW.iStr, PW.iRng1, PW.iRng2, PW.iRngD, PW.iEnum, PW.iZip, PW.items, PW.bNil, PW.bV, PW.bB, PW.bR, PW.kCall, PW.kMeth, PW.kMake, PW.oV, PW.oR, PW.oB, PW.isObj, PW.isCls, PW.wSh, PW.nFr, PW.wInO, PW.wNInO, PW.call, PW.lent, PW.lentB, PW.lentR, PW.lentOk, PW.back_nil, PW.back_v, PW.back_r, PW.back_b, PW.entry, PW.noX, PW.b2i, PW.nLc, PW.fDget, PW.fDin, PW.fDnin, PW.fDlen, PW.nDit, PW.nDic, PW.sDput, PW.putKv, PW.dKv, PW.fSortSet, PW.wMt, PW.fSIndex, PW.fSFind, PW.isStr, PW.isLst1, PW.nLc2, PW.elt1, PW.elt2, line_eq]
  refine ⟨by omega, by omega, s, one ++ t, other ++ lo, r, hs, over_app o1 ot, over_app o2 olo, by simp; omega, by simp; omega, hr, rfl, fun b os hb => ?_⟩
  simp [PW.sSeq, PW.sPass, PW.sBreak, PW.sCont, PW.sNever, PW.sExpr, PW.sSet, PW.sNew, PW.sPut, PW.sApp, PW.sFld, PW.sAsg, PW.sRet, PW.sRetN, PW.sRetF, PW.sRetO, PW.sIf, PW.sFor, PW.gN, PW.gT, PW.gUn, PW.wC, PW.wV, PW.rN, PW.rE, PW.peek, PW.wUn, PW.wBin, PW.wLk, PW.wLk2, PW.wLkR, PW.wLkB, PW.tB, PW.tTr, PW.truth, PW.tAnd, PW.tOr, PW.tNot, PW.tYes, PW.wAnd, PW.wOr, PW.wNot, PW.wIf, PW.wChain, PW.aNil, PW.aCons, PW.wTup, PW.nLst, PW.nCat, PW.nRep, PW.wPart, PW.fSl, PW.wSl, PW.nSl, PW.wSlL, PW.fAdd, PW.fSub, PW.fMul, PW.fFdiv, PW.fMod, PW.fPow, PW.fShl, PW.fShr, PW.fAnd, PW.fOr, PW.fXor, PW.fNeg, PW.fLt, PW.fLe, PW.fGt, PW.fGe, PW.fEq, PW.fNe, PW.fIsNone, PW.fIsntNone, PW.isNon, PW.fIn, PW.fNotIn, PW.fIx, PW.fLen, PW.fInt, PW.fAbs, PW.fMax2, PW.fMin2, PW.fTuple, PW.fList, PW.fMaxL, PW.fMinL, PW.fIs, PW.isTy, PW.fIsO, PW.fFld, PW.fCon, PW.fTab, PW.fInTab, PW.fNInTab, PW.plain, PW.plainL, PW.eqv, PW.eqvL, PW.small, PW.putO, PW.free, PW.isBo_sh, PW.isBo_un, PW.isBo_ow, PW.isBo_rd, PW.wipe, PW.unwipe, PW.isLst, PW.putF, PW.iSeq, PW.iStr, PW.iRng1, PW.iRng2, PW.iRngD, PW.iEnum, PW.iZip, PW.items, PW.bNil, PW.bV, PW.bB, PW.bR, PW.kCall, PW.kMeth, PW.kMake, PW.oV, PW.oR, PW.oB, PW.isObj, PW.isCls, PW.wSh, PW.nFr, PW.wInO, PW.wNInO, PW.call, PW.lent, PW.lentB, PW.lentR, PW.lentOk, PW.back_nil, PW.back_v, PW.back_r, PW.back_b, PW.entry, PW.noX, PW.b2i, PW.nLc, PW.fDget, PW.fDin, PW.fDnin, PW.fDlen, PW.nDit, PW.nDic, PW.sDput, PW.putKv, PW.dKv, PW.fSortSet, PW.wMt, PW.fSIndex, PW.fSFind, PW.isStr, PW.isLst1, PW.nLc2, PW.elt1, PW.elt2, line_eq]
  refine ⟨by omega, by omega, s, t ++ other, lo ++ one, r, hs, over_app ot o2, over_app olo o1, by simp; omega, by simp; omega, hr, rfl, fun b2 os hb2 => ?_⟩
  have e1 : b = true := hb.mpr (al.app allo)
  have e2 : b2 = true := hb2.mpr (allo.app al.symm)
  subst e1; subst e2
  simp [PW.sSeq, PW.sPass, PW.sBreak, PW.sCont, PW.sNever, PW.sExpr, PW.sSet, PW.sNew, PW.sPut, PW.sApp, PW.sFld, PW.sAsg, PW.sRet, PW.sRetN, PW.sRetF, PW.sRetO, PW.sIf, PW.sFor, PW.gN, PW.gT, PW.gUn, PW.wC, PW.wV, PW.rN, PW.rE, PW.peek, PW.wUn, PW.wBin, PW.wLk, PW.wLk2, PW.wLkR, PW.wLkB, PW.tB, PW.tTr, PW.truth, PW.tAnd, PW.tOr, PW.tNot, PW.tYes, PW.wAnd, PW.wOr, PW.wNot, PW.wIf, PW.wChain, PW.aNil, PW.aCons, PW.wTup, PW.nLst, PW.nCat, PW.nRep, PW.wPart, PW.fSl, PW.wSl, PW.nSl, PW.wSlL, PW.fAdd, PW.fSub, PW.fMul, PW.fFdiv, PW.fMod, PW.fPow, PW.fShl, PW.fShr, PW.fAnd, PW.fOr, PW.fXor, PW.fNeg, PW.fLt, PW.fLe, PW.fGt, PW.fGe, PW.fEq, PW.fNe, PW.fIsNone, PW.fIsntNone, PW.isNon, PW.fIn, PW.fNotIn, PW.fIx, PW.fLen, PW.fInt, PW.fAbs, PW.fMax2, PW.fMin2, PW.fTuple, PW.fList, PW.fMaxL, PW.fMinL, PW.fIs, PW.isTy, PW.fIsO, PW.fFld, PW.fCon, PW.fTab, PW.fInTab, PW.fNInTab, PW.plain, PW.plainL, PW.eqv, PW.eqvL, PW.small, PW.putO, PW.free, PW.isBo_sh, PW.isBo_un, PW.isBo_ow, PW.isBo_rd, PW.wipe, PW.unwipe, PW.isLst, PW.putF, PW.iSeq, PW.iStr, PW.iRng1, PW.iRng2, PW.iRngD, PW.iEnum, PW.iZip, PW.items, PW.bNil, PW.bV, PW.bB, PW.bR, PW.kCall, PW.kMeth, PW.kMake, PW.oV, PW.oR, PW.oB, PW.isObj, PW.isCls, PW.wSh, PW.nFr, PW.wInO, PW.wNInO, PW.call, PW.lent, PW.lentB, PW.lentR, PW.lentOk, PW.back_nil, PW.back_v, PW.back_r, PW.back_b, PW.entry, PW.noX, PW.b2i, PW.nLc, PW.fDget, PW.fDin, PW.fDnin, PW.fDlen, PW.nDit, PW.nDic, PW.sDput, PW.putKv, PW.dKv, PW.fSortSet, PW.wMt, PW.fSIndex, PW.fSFind, PW.isStr, PW.isLst1, PW.nLc2, PW.elt1, PW.elt2, line_eq]
  refine same_bls [true, true] (by simp) fun os => ?_
  simpa [PW.sSeq, PW.sPass, PW.sBreak, PW.sCont, PW.sNever, PW.sExpr, PW.sSet, PW.sNew, PW.sPut, PW.sApp, PW.sFld, PW.sAsg, PW.sRet, PW.sRetN, PW.sRetF, PW.sRetO, PW.sIf, PW.sFor, PW.gN, PW.gT, PW.gUn, PW.wC, PW.wV, PW.rN, PW.rE, PW.peek, PW.wUn, PW.wBin, PW.wLk, PW.wLk2, PW.wLkR, PW.wLkB, PW.tB, PW.tTr, PW.truth, PW.tAnd, PW.tOr, PW.tNot, PW.tYes, PW.wAnd, PW.wOr, PW.wNot, PW.wIf, PW.wChain, PW.aNil, PW.aCons, PW.wTup, PW.nLst, PW.nCat, PW.nRep, PW.wPart, PW.fSl, PW.wSl, PW.nSl, PW.wSlL, PW.fAdd, PW.fSub, PW.fMul, PW.fFdiv, PW.fMod, PW.fPow, PW.fShl, PW.fShr, PW.fAnd, PW.fOr, PW.fXor, PW.fNeg, PW.fLt, PW.fLe, PW.fGt, PW.fGe, PW.fEq, PW.fNe, PW.fIsNone, PW.fIsntNone, PW.isNon, PW.fIn, PW.fNotIn, PW.fIx, PW.fLen, PW.fInt, PW.fAbs, PW.fMax2, PW.fMin2, PW.fTuple, PW.fList, PW.fMaxL, PW.fMinL, PW.fIs, PW.isTy, PW.fIsO, PW.fFld, PW.fCon, PW.fTab, PW.fInTab, PW.fNInTab, PW.plain, PW.plainL, PW.eqv, PW.eqvL, PW.small, PW.putO, PW.free, PW.isBo_sh, PW.isBo_un, PW.isBo_ow, PW.isBo_rd, PW.wipe, PW.unwipe, PW.isLst, PW.putF, PW.iSeq, PW.iStr, PW.iRng1, PW.iRng2, PW.iRngD, PW.iEnum, PW.iZip, PW.items, PW.bNil, PW.bV, PW.bB, PW.bR, PW.kCall, PW.kMeth, PW.kMake, PW.oV, PW.oR, PW.oB, PW.isObj, PW.isCls, PW.wSh, PW.nFr, PW.wInO, PW.wNInO, PW.call, PW.lent, PW.lentB, PW.lentR, PW.lentOk, PW.back_nil, PW.back_v, PW.back_r, PW.back_b, PW.entry, PW.noX, PW.b2i, PW.nLc, PW.fDget, PW.fDin, PW.fDnin, PW.fDlen, PW.nDit, PW.nDic, PW.sDput, PW.putKv, PW.dKv, PW.fSortSet, PW.wMt, PW.fSIndex, PW.fSFind, PW.isStr, PW.isLst1, PW.nLc2, PW.elt1, PW.elt2] using h d hd
end PW
end

section
set_option linter.all false
set_option maxHeartbeats 4000000
set_option maxRecDepth 100000
/-! G10: powers of a letter; the law. -/
namespace PW
open GM
def φ__law_numbers : FSpec := fun ss q _ => ∃ d s r, IsSt d ∧ Lets s ∧ r ≤ 3 ∧ ss = [.bo d, .sh (.str s), .sh (natD r)] ∧ ∀ d', IsSt d' → q (.sh (.bl true)) [.bo d', .sh (.str s), .sh (natD r)]
theorem len__law_numbers : ∀ ss q e, φ__law_numbers ss q e → ss.length = 3 := by rintro ss q e ⟨d, s, r, _, _, _, rfl, _⟩; rfl
theorem not_al {c k : Nat} (hk : 1 ≤ k) : ¬ Al k (pw [c] (2 ^ k - 2)) (pw [c] (2 ^ k - 2) ++ [c]) := by
  intro h
  have := h.len
  have h2 : 2 ≤ 2 ^ k := by
    have : 2 ^ 1 ≤ 2 ^ k := Nat.pow_le_pow_right (by decide) hk
    omega
  simp only [pw_len, List.length_append, List.length_cons, List.length_nil] at this
  omega
def w__law_numbers : PW.WS :=
 (PW.sSeq (PW.sSet 3 (PW.wLk2 PW.fIx (PW.rN 1) (PW.wSh (PW.kCall φ__law_draw [] (PW.bB 0 (PW.bV (PW.wLk PW.fLen (PW.rN 1)) PW.bNil))))))
 (PW.sSeq (PW.sSet 4 (PW.wC (.int 7)))
 (PW.sSeq (PW.sIf (PW.tB (PW.wLkB PW.fEq (PW.rN 2) (PW.rE (PW.wC (.int 3)))))
 (PW.sSet 4 (PW.wC (.int 10)))
 PW.sPass)
 (PW.sSeq (PW.sSet 5 (PW.wSh (PW.kCall φ__law_draw [] (PW.bB 0 (PW.bV (PW.wV 4) PW.bNil)))))
 (PW.sSeq (PW.sSet 6 (PW.wSh (PW.kCall φ__law_draw [] (PW.bB 0 (PW.bV (PW.wV 4) PW.bNil)))))
 (PW.sSeq (PW.sIf (PW.tB (PW.wLkB PW.fEq (PW.rE (PW.wSh (PW.kCall φ__law_draw [] (PW.bB 0 (PW.bV (PW.wC (.int 2)) PW.bNil))))) (PW.rE (PW.wC (.int 1)))))
 (PW.sSet 6 (PW.wBin PW.fMax2 (PW.wC (.int 0)) (PW.wBin PW.fSub (PW.wV 5) (PW.wC (.int 1)))))
 PW.sPass)
 (PW.sSeq (PW.sSet 7 (PW.wBin PW.fSub (PW.wBin PW.fShl (PW.wC (.int 1)) (PW.wV 2)) (PW.wC (.int 1))))
 (PW.sSeq (PW.sSet 8 (PW.wOr (PW.wLkB PW.fEq (PW.rN 5) (PW.rN 6)) (PW.wAnd (PW.wLkB PW.fGe (PW.rN 5) (PW.rN 7)) (PW.wLkB PW.fGe (PW.rN 6) (PW.rN 7)))))
 (PW.sSeq (PW.sIf (PW.tNot (PW.tB (PW.wSh (PW.kCall φ__law_same [] (PW.bV (PW.wSh (PW.kCall φ_alike [] (PW.bV (PW.wV 1) (PW.bV (PW.wBin PW.fMul (PW.wV 3) (PW.wV 5)) (PW.bV (PW.wBin PW.fMul (PW.wV 3) (PW.wV 6)) (PW.bV (PW.wV 2) PW.bNil)))))) (PW.bV (PW.wV 8) PW.bNil))))))
 (PW.sRet (PW.wC (.bl false)))
 PW.sPass)
 (PW.sSeq (PW.sSet 9 (PW.wBin PW.fMax2 (PW.wC (.int 1)) (PW.wV 2)))
 (PW.sSeq (PW.sSet 10 (PW.wBin PW.fMul (PW.wV 3) (PW.wBin PW.fSub (PW.wBin PW.fShl (PW.wC (.int 1)) (PW.wV 9)) (PW.wC (.int 2)))))
 (PW.sSeq (PW.sSet 11 (PW.nLst (PW.aCons (PW.wSh (PW.kCall φ_alike [] (PW.bV (PW.wV 1) (PW.bV (PW.wV 10) (PW.bV (PW.wBin PW.fAdd (PW.wV 10) (PW.wV 3)) (PW.bV (PW.wV 9) PW.bNil)))))) (PW.aCons (PW.wSh (PW.kCall φ_alike [] (PW.bV (PW.wV 1) (PW.bV (PW.wBin PW.fAdd (PW.wV 10) (PW.wV 3)) (PW.bV (PW.wV 10) (PW.bV (PW.wV 9) PW.bNil)))))) PW.aNil))))
 (PW.sRet (PW.wSh (PW.kCall φ__law_same [] (PW.bV (PW.wV 11) (PW.bV (PW.nLst (PW.aCons (PW.wC (.bl false)) (PW.aCons (PW.wC (.bl false)) PW.aNil))) PW.bNil)))))))))))))))))

theorem hs__law_numbers : Does φ__law_numbers 12 w__law_numbers := by
  rintro ss q e ⟨d, s, r, hd, hs, hr, rfl, h⟩
  have hl : s.length ≤ 16777216 := by have := hs.le; omega
  have hn1 := hs.ne
  have hn3 := hs.le
  have h2r := two_le hr
  have h1r : 1 ≤ 2 ^ r := Nat.one_le_two_pow
  unfold w__law_numbers entry
  refine seq_cut (fun ρ => ∃ d c, IsSt d ∧ c ∈ s ∧ ρ = [.bo d, .sh (.str s), .sh (natD r), .sh (.str [c]), .un, .un, .un, .un, .un, .un, .un, .un]) (fun K hK => ?_) ?_
  · simp [PW.sSeq, PW.sPass, PW.sBreak, PW.sCont, PW.sNever, PW.sExpr, PW.sSet, PW.sNew, PW.sPut, PW.sApp, PW.sFld, PW.sAsg, PW.sRet, PW.sRetN, PW.sRetF, PW.sRetO, PW.sIf, PW.sFor, PW.gN, PW.gT, PW.gUn, PW.wC, PW.wV, PW.rN, PW.rE, PW.peek, PW.wUn, PW.wBin, PW.wLk, PW.wLk2, PW.wLkR, PW.wLkB, PW.tB, PW.tTr, PW.truth, PW.tAnd, PW.tOr, PW.tNot, PW.tYes, PW.wAnd, PW.wOr, PW.wNot, PW.wIf, PW.wChain, PW.aNil, PW.aCons, PW.wTup, PW.nLst, PW.nCat, PW.nRep, PW.wPart, PW.fSl, PW.wSl, PW.nSl, PW.wSlL, PW.fAdd, PW.fSub, PW.fMul, PW.fFdiv, PW.fMod, PW.fPow, PW.fShl, PW.fShr, PW.fAnd, PW.fOr, PW.fXor, PW.fNeg, PW.fLt, PW.fLe, PW.fGt, PW.fGe, PW.fEq, PW.fNe, PW.fIsNone, PW.fIsntNone, PW.isNon, PW.fIn, PW.fNotIn, PW.fIx, PW.fLen, PW.fInt, PW.fAbs, PW.fMax2, PW.fMin2, PW.fTuple, PW.fList, PW.fMaxL, PW.fMinL, PW.fIs, PW.isTy, PW.fIsO, PW.fFld, PW.fCon, PW.fTab, PW.fInTab, PW.fNInTab, PW.plain, PW.plainL, PW.eqv, PW.eqvL, PW.small, PW.putO, PW.free, PW.isBo_sh, PW.isBo_un, PW.isBo_ow, PW.isBo_rd, PW.wipe, PW.unwipe, PW.isLst, PW.putF, PW.iSeq, PW.iStr, PW.iRng1, PW.iRng2, PW.iRngD, PW.iEnum, PW.iZip, PW.items, PW.bNil, PW.bV, PW.bB, PW.bR, PW.kCall, PW.kMeth, PW.kMake, PW.oV, PW.oR, PW.oB, PW.isObj, PW.isCls, PW.wSh, PW.nFr, PW.wInO, PW.wNInO, PW.call, PW.lent, PW.lentB, PW.lentR, PW.lentOk, PW.back_nil, PW.back_v, PW.back_r, PW.back_b, PW.entry, PW.noX, PW.b2i, PW.nLc, PW.fDget, PW.fDin, PW.fDnin, PW.fDlen, PW.nDit, PW.nDic, PW.sDput, PW.putKv, PW.dKv, PW.fSortSet, PW.wMt, PW.fSIndex, PW.fSFind, PW.isStr, PW.isLst1, PW.nLc2, PW.elt1, PW.elt2, line_eq, hl]
    refine ⟨d, s.length, hd, by omega, by omega, rfl, fun d1 x hd1 x0 x1 => ?_⟩
    have lx : x.toNat < s.length := by omega
    simp [PW.sSeq, PW.sPass, PW.sBreak, PW.sCont, PW.sNever, PW.sExpr, PW.sSet, PW.sNew, PW.sPut, PW.sApp, PW.sFld, PW.sAsg, PW.sRet, PW.sRetN, PW.sRetF, PW.sRetO, PW.sIf, PW.sFor, PW.gN, PW.gT, PW.gUn, PW.wC, PW.wV, PW.rN, PW.rE, PW.peek, PW.wUn, PW.wBin, PW.wLk, PW.wLk2, PW.wLkR, PW.wLkB, PW.tB, PW.tTr, PW.truth, PW.tAnd, PW.tOr, PW.tNot, PW.tYes, PW.wAnd, PW.wOr, PW.wNot, PW.wIf, PW.wChain, PW.aNil, PW.aCons, PW.wTup, PW.nLst, PW.nCat, PW.nRep, PW.wPart, PW.fSl, PW.wSl, PW.nSl, PW.wSlL, PW.fAdd, PW.fSub, PW.fMul, PW.fFdiv, PW.fMod, PW.fPow, PW.fShl, PW.fShr, PW.fAnd, PW.fOr, PW.fXor, PW.fNeg, PW.fLt, PW.fLe, PW.fGt, PW.fGe, PW.fEq, PW.fNe, PW.fIsNone, PW.fIsntNone, PW.isNon, PW.fIn, PW.fNotIn, PW.fIx, PW.fLen, PW.fInt, PW.fAbs, PW.fMax2, PW.fMin2, PW.fTuple, PW.fList, PW.fMaxL, PW.fMinL, PW.fIs, PW.isTy, PW.fIsO, PW.fFld, PW.fCon, PW.fTab, PW.fInTab, PW.fNInTab, PW.plain, PW.plainL, PW.eqv, PW.eqvL, PW.small, PW.putO, PW.free, PW.isBo_sh, PW.isBo_un, PW.isBo_ow, PW.isBo_rd, PW.wipe, PW.unwipe, PW.isLst, PW.putF, PW.iSeq, PW.iStr, PW.iRng1, PW.iRng2, PW.iRngD, PW.iEnum, PW.iZip, PW.items, PW.bNil, PW.bV, PW.bB, PW.bR, PW.kCall, PW.kMeth, PW.kMake, PW.oV, PW.oR, PW.oB, PW.isObj, PW.isCls, PW.wSh, PW.nFr, PW.wInO, PW.wNInO, PW.call, PW.lent, PW.lentB, PW.lentR, PW.lentOk, PW.back_nil, PW.back_v, PW.back_r, PW.back_b, PW.entry, PW.noX, PW.b2i, PW.nLc, PW.fDget, PW.fDin, PW.fDnin, PW.fDlen, PW.nDit, PW.nDic, PW.sDput, PW.putKv, PW.dKv, PW.fSortSet, PW.wMt, PW.fSIndex, PW.fSFind, PW.isStr, PW.isLst1, PW.nLc2, PW.elt1, PW.elt2, line_eq]
    rw [atI_of x0, List.getElem?_eq_getElem lx]
    exact ⟨hl, hK _ ⟨d1, _, hd1, List.getElem_mem lx, rfl⟩⟩
  rintro ρ ⟨d, c, hd, hc, rfl⟩
  refine seq_cut (fun ρ => ρ = [.bo d, .sh (.str s), .sh (natD r), .sh (.str [c]), .sh (.int 7), .un, .un, .un, .un, .un, .un, .un]) (fun K hK => ?_) ?_
  · simp [PW.sSeq, PW.sPass, PW.sBreak, PW.sCont, PW.sNever, PW.sExpr, PW.sSet, PW.sNew, PW.sPut, PW.sApp, PW.sFld, PW.sAsg, PW.sRet, PW.sRetN, PW.sRetF, PW.sRetO, PW.sIf, PW.sFor, PW.gN, PW.gT, PW.gUn, PW.wC, PW.wV, PW.rN, PW.rE, PW.peek, PW.wUn, PW.wBin, PW.wLk, PW.wLk2, PW.wLkR, PW.wLkB, PW.tB, PW.tTr, PW.truth, PW.tAnd, PW.tOr, PW.tNot, PW.tYes, PW.wAnd, PW.wOr, PW.wNot, PW.wIf, PW.wChain, PW.aNil, PW.aCons, PW.wTup, PW.nLst, PW.nCat, PW.nRep, PW.wPart, PW.fSl, PW.wSl, PW.nSl, PW.wSlL, PW.fAdd, PW.fSub, PW.fMul, PW.fFdiv, PW.fMod, PW.fPow, PW.fShl, PW.fShr, PW.fAnd, PW.fOr, PW.fXor, PW.fNeg, PW.fLt, PW.fLe, PW.fGt, PW.fGe, PW.fEq, PW.fNe, PW.fIsNone, PW.fIsntNone, PW.isNon, PW.fIn, PW.fNotIn, PW.fIx, PW.fLen, PW.fInt, PW.fAbs, PW.fMax2, PW.fMin2, PW.fTuple, PW.fList, PW.fMaxL, PW.fMinL, PW.fIs, PW.isTy, PW.fIsO, PW.fFld, PW.fCon, PW.fTab, PW.fInTab, PW.fNInTab, PW.plain, PW.plainL, PW.eqv, PW.eqvL, PW.small, PW.putO, PW.free, PW.isBo_sh, PW.isBo_un, PW.isBo_ow, PW.isBo_rd, PW.wipe, PW.unwipe, PW.isLst, PW.putF, PW.iSeq, PW.iStr, PW.iRng1, PW.iRng2, PW.iRngD, PW.iEnum, PW.iZip, PW.items, PW.bNil, PW.bV, PW.bB, PW.bR, PW.kCall, PW.kMeth, PW.kMake, PW.oV, PW.oR, PW.oB, PW.isObj, PW.isCls, PW.wSh, PW.nFr, PW.wInO, PW.wNInO, PW.call, PW.lent, PW.lentB, PW.lentR, PW.lentOk, PW.back_nil, PW.back_v, PW.back_r, PW.back_b, PW.entry, PW.noX, PW.b2i, PW.nLc, PW.fDget, PW.fDin, PW.fDnin, PW.fDlen, PW.nDit, PW.nDic, PW.sDput, PW.putKv, PW.dKv, PW.fSortSet, PW.wMt, PW.fSIndex, PW.fSFind, PW.isStr, PW.isLst1, PW.nLc2, PW.elt1, PW.elt2, line_eq]; exact hK _ rfl
  rintro ρ rfl
  refine seq_cut (fun ρ => ∃ most : Nat, 1 ≤ most ∧ most ≤ 10 ∧ ρ = [.bo d, .sh (.str s), .sh (natD r), .sh (.str [c]), .sh (natD most), .un, .un, .un, .un, .un, .un, .un]) (fun K hK => ?_) ?_
  · by_cases c3 : (r : Int) = 3
    · simp [PW.sSeq, PW.sPass, PW.sBreak, PW.sCont, PW.sNever, PW.sExpr, PW.sSet, PW.sNew, PW.sPut, PW.sApp, PW.sFld, PW.sAsg, PW.sRet, PW.sRetN, PW.sRetF, PW.sRetO, PW.sIf, PW.sFor, PW.gN, PW.gT, PW.gUn, PW.wC, PW.wV, PW.rN, PW.rE, PW.peek, PW.wUn, PW.wBin, PW.wLk, PW.wLk2, PW.wLkR, PW.wLkB, PW.tB, PW.tTr, PW.truth, PW.tAnd, PW.tOr, PW.tNot, PW.tYes, PW.wAnd, PW.wOr, PW.wNot, PW.wIf, PW.wChain, PW.aNil, PW.aCons, PW.wTup, PW.nLst, PW.nCat, PW.nRep, PW.wPart, PW.fSl, PW.wSl, PW.nSl, PW.wSlL, PW.fAdd, PW.fSub, PW.fMul, PW.fFdiv, PW.fMod, PW.fPow, PW.fShl, PW.fShr, PW.fAnd, PW.fOr, PW.fXor, PW.fNeg, PW.fLt, PW.fLe, PW.fGt, PW.fGe, PW.fEq, PW.fNe, PW.fIsNone, PW.fIsntNone, PW.isNon, PW.fIn, PW.fNotIn, PW.fIx, PW.fLen, PW.fInt, PW.fAbs, PW.fMax2, PW.fMin2, PW.fTuple, PW.fList, PW.fMaxL, PW.fMinL, PW.fIs, PW.isTy, PW.fIsO, PW.fFld, PW.fCon, PW.fTab, PW.fInTab, PW.fNInTab, PW.plain, PW.plainL, PW.eqv, PW.eqvL, PW.small, PW.putO, PW.free, PW.isBo_sh, PW.isBo_un, PW.isBo_ow, PW.isBo_rd, PW.wipe, PW.unwipe, PW.isLst, PW.putF, PW.iSeq, PW.iStr, PW.iRng1, PW.iRng2, PW.iRngD, PW.iEnum, PW.iZip, PW.items, PW.bNil, PW.bV, PW.bB, PW.bR, PW.kCall, PW.kMeth, PW.kMake, PW.oV, PW.oR, PW.oB, PW.isObj, PW.isCls, PW.wSh, PW.nFr, PW.wInO, PW.wNInO, PW.call, PW.lent, PW.lentB, PW.lentR, PW.lentOk, PW.back_nil, PW.back_v, PW.back_r, PW.back_b, PW.entry, PW.noX, PW.b2i, PW.nLc, PW.fDget, PW.fDin, PW.fDnin, PW.fDlen, PW.nDit, PW.nDic, PW.sDput, PW.putKv, PW.dKv, PW.fSortSet, PW.wMt, PW.fSIndex, PW.fSFind, PW.isStr, PW.isLst1, PW.nLc2, PW.elt1, PW.elt2, line_eq, natD, c3]; exact hK _ ⟨10, by omega, by omega, by simp [natD, c3]⟩
    · simp [PW.sSeq, PW.sPass, PW.sBreak, PW.sCont, PW.sNever, PW.sExpr, PW.sSet, PW.sNew, PW.sPut, PW.sApp, PW.sFld, PW.sAsg, PW.sRet, PW.sRetN, PW.sRetF, PW.sRetO, PW.sIf, PW.sFor, PW.gN, PW.gT, PW.gUn, PW.wC, PW.wV, PW.rN, PW.rE, PW.peek, PW.wUn, PW.wBin, PW.wLk, PW.wLk2, PW.wLkR, PW.wLkB, PW.tB, PW.tTr, PW.truth, PW.tAnd, PW.tOr, PW.tNot, PW.tYes, PW.wAnd, PW.wOr, PW.wNot, PW.wIf, PW.wChain, PW.aNil, PW.aCons, PW.wTup, PW.nLst, PW.nCat, PW.nRep, PW.wPart, PW.fSl, PW.wSl, PW.nSl, PW.wSlL, PW.fAdd, PW.fSub, PW.fMul, PW.fFdiv, PW.fMod, PW.fPow, PW.fShl, PW.fShr, PW.fAnd, PW.fOr, PW.fXor, PW.fNeg, PW.fLt, PW.fLe, PW.fGt, PW.fGe, PW.fEq, PW.fNe, PW.fIsNone, PW.fIsntNone, PW.isNon, PW.fIn, PW.fNotIn, PW.fIx, PW.fLen, PW.fInt, PW.fAbs, PW.fMax2, PW.fMin2, PW.fTuple, PW.fList, PW.fMaxL, PW.fMinL, PW.fIs, PW.isTy, PW.fIsO, PW.fFld, PW.fCon, PW.fTab, PW.fInTab, PW.fNInTab, PW.plain, PW.plainL, PW.eqv, PW.eqvL, PW.small, PW.putO, PW.free, PW.isBo_sh, PW.isBo_un, PW.isBo_ow, PW.isBo_rd, PW.wipe, PW.unwipe, PW.isLst, PW.putF, PW.iSeq, PW.iStr, PW.iRng1, PW.iRng2, PW.iRngD, PW.iEnum, PW.iZip, PW.items, PW.bNil, PW.bV, PW.bB, PW.bR, PW.kCall, PW.kMeth, PW.kMake, PW.oV, PW.oR, PW.oB, PW.isObj, PW.isCls, PW.wSh, PW.nFr, PW.wInO, PW.wNInO, PW.call, PW.lent, PW.lentB, PW.lentR, PW.lentOk, PW.back_nil, PW.back_v, PW.back_r, PW.back_b, PW.entry, PW.noX, PW.b2i, PW.nLc, PW.fDget, PW.fDin, PW.fDnin, PW.fDlen, PW.nDit, PW.nDic, PW.sDput, PW.putKv, PW.dKv, PW.fSortSet, PW.wMt, PW.fSIndex, PW.fSFind, PW.isStr, PW.isLst1, PW.nLc2, PW.elt1, PW.elt2, line_eq, natD, c3]; exact hK _ ⟨7, by omega, by omega, rfl⟩
  rintro ρ ⟨most, hm1, hm10, rfl⟩
  have nat : ∀ {x : Int}, 0 ≤ x → x < most → ∃ n : Nat, x = n ∧ n ≤ 10 := fun {x} h0 h1 => ⟨x.toNat, by omega, by omega⟩
  refine seq_cut (fun ρ => ∃ d m, IsSt d ∧ m ≤ 10 ∧ ρ = [.bo d, .sh (.str s), .sh (natD r), .sh (.str [c]), .sh (natD most), .sh (natD m), .un, .un, .un, .un, .un, .un]) (fun K hK => ?_) ?_
  · simp [PW.sSeq, PW.sPass, PW.sBreak, PW.sCont, PW.sNever, PW.sExpr, PW.sSet, PW.sNew, PW.sPut, PW.sApp, PW.sFld, PW.sAsg, PW.sRet, PW.sRetN, PW.sRetF, PW.sRetO, PW.sIf, PW.sFor, PW.gN, PW.gT, PW.gUn, PW.wC, PW.wV, PW.rN, PW.rE, PW.peek, PW.wUn, PW.wBin, PW.wLk, PW.wLk2, PW.wLkR, PW.wLkB, PW.tB, PW.tTr, PW.truth, PW.tAnd, PW.tOr, PW.tNot, PW.tYes, PW.wAnd, PW.wOr, PW.wNot, PW.wIf, PW.wChain, PW.aNil, PW.aCons, PW.wTup, PW.nLst, PW.nCat, PW.nRep, PW.wPart, PW.fSl, PW.wSl, PW.nSl, PW.wSlL, PW.fAdd, PW.fSub, PW.fMul, PW.fFdiv, PW.fMod, PW.fPow, PW.fShl, PW.fShr, PW.fAnd, PW.fOr, PW.fXor, PW.fNeg, PW.fLt, PW.fLe, PW.fGt, PW.fGe, PW.fEq, PW.fNe, PW.fIsNone, PW.fIsntNone, PW.isNon, PW.fIn, PW.fNotIn, PW.fIx, PW.fLen, PW.fInt, PW.fAbs, PW.fMax2, PW.fMin2, PW.fTuple, PW.fList, PW.fMaxL, PW.fMinL, PW.fIs, PW.isTy, PW.fIsO, PW.fFld, PW.fCon, PW.fTab, PW.fInTab, PW.fNInTab, PW.plain, PW.plainL, PW.eqv, PW.eqvL, PW.small, PW.putO, PW.free, PW.isBo_sh, PW.isBo_un, PW.isBo_ow, PW.isBo_rd, PW.wipe, PW.unwipe, PW.isLst, PW.putF, PW.iSeq, PW.iStr, PW.iRng1, PW.iRng2, PW.iRngD, PW.iEnum, PW.iZip, PW.items, PW.bNil, PW.bV, PW.bB, PW.bR, PW.kCall, PW.kMeth, PW.kMake, PW.oV, PW.oR, PW.oB, PW.isObj, PW.isCls, PW.wSh, PW.nFr, PW.wInO, PW.wNInO, PW.call, PW.lent, PW.lentB, PW.lentR, PW.lentOk, PW.back_nil, PW.back_v, PW.back_r, PW.back_b, PW.entry, PW.noX, PW.b2i, PW.nLc, PW.fDget, PW.fDin, PW.fDnin, PW.fDlen, PW.nDit, PW.nDic, PW.sDput, PW.putKv, PW.dKv, PW.fSortSet, PW.wMt, PW.fSIndex, PW.fSFind, PW.isStr, PW.isLst1, PW.nLc2, PW.elt1, PW.elt2, line_eq, natD]
    refine ⟨d, most, hd, by omega, by omega, rfl, fun d1 x hd1 x0 x1 => ?_⟩
    obtain ⟨n, rfl, hn⟩ := nat x0 x1
    simp [PW.sSeq, PW.sPass, PW.sBreak, PW.sCont, PW.sNever, PW.sExpr, PW.sSet, PW.sNew, PW.sPut, PW.sApp, PW.sFld, PW.sAsg, PW.sRet, PW.sRetN, PW.sRetF, PW.sRetO, PW.sIf, PW.sFor, PW.gN, PW.gT, PW.gUn, PW.wC, PW.wV, PW.rN, PW.rE, PW.peek, PW.wUn, PW.wBin, PW.wLk, PW.wLk2, PW.wLkR, PW.wLkB, PW.tB, PW.tTr, PW.truth, PW.tAnd, PW.tOr, PW.tNot, PW.tYes, PW.wAnd, PW.wOr, PW.wNot, PW.wIf, PW.wChain, PW.aNil, PW.aCons, PW.wTup, PW.nLst, PW.nCat, PW.nRep, PW.wPart, PW.fSl, PW.wSl, PW.nSl, PW.wSlL, PW.fAdd, PW.fSub, PW.fMul, PW.fFdiv, PW.fMod, PW.fPow, PW.fShl, PW.fShr, PW.fAnd, PW.fOr, PW.fXor, PW.fNeg, PW.fLt, PW.fLe, PW.fGt, PW.fGe, PW.fEq, PW.fNe, PW.fIsNone, PW.fIsntNone, PW.isNon, PW.fIn, PW.fNotIn, PW.fIx, PW.fLen, PW.fInt, PW.fAbs, PW.fMax2, PW.fMin2, PW.fTuple, PW.fList, PW.fMaxL, PW.fMinL, PW.fIs, PW.isTy, PW.fIsO, PW.fFld, PW.fCon, PW.fTab, PW.fInTab, PW.fNInTab, PW.plain, PW.plainL, PW.eqv, PW.eqvL, PW.small, PW.putO, PW.free, PW.isBo_sh, PW.isBo_un, PW.isBo_ow, PW.isBo_rd, PW.wipe, PW.unwipe, PW.isLst, PW.putF, PW.iSeq, PW.iStr, PW.iRng1, PW.iRng2, PW.iRngD, PW.iEnum, PW.iZip, PW.items, PW.bNil, PW.bV, PW.bB, PW.bR, PW.kCall, PW.kMeth, PW.kMake, PW.oV, PW.oR, PW.oB, PW.isObj, PW.isCls, PW.wSh, PW.nFr, PW.wInO, PW.wNInO, PW.call, PW.lent, PW.lentB, PW.lentR, PW.lentOk, PW.back_nil, PW.back_v, PW.back_r, PW.back_b, PW.entry, PW.noX, PW.b2i, PW.nLc, PW.fDget, PW.fDin, PW.fDnin, PW.fDlen, PW.nDit, PW.nDic, PW.sDput, PW.putKv, PW.dKv, PW.fSortSet, PW.wMt, PW.fSIndex, PW.fSFind, PW.isStr, PW.isLst1, PW.nLc2, PW.elt1, PW.elt2, line_eq]; exact hK _ ⟨d1, n, hd1, hn, rfl⟩
  rintro ρ ⟨d, m, hd, hm, rfl⟩
  refine seq_cut (fun ρ => ∃ d n, IsSt d ∧ n ≤ 10 ∧ ρ = [.bo d, .sh (.str s), .sh (natD r), .sh (.str [c]), .sh (natD most), .sh (natD m), .sh (natD n), .un, .un, .un, .un, .un]) (fun K hK => ?_) ?_
  · simp [PW.sSeq, PW.sPass, PW.sBreak, PW.sCont, PW.sNever, PW.sExpr, PW.sSet, PW.sNew, PW.sPut, PW.sApp, PW.sFld, PW.sAsg, PW.sRet, PW.sRetN, PW.sRetF, PW.sRetO, PW.sIf, PW.sFor, PW.gN, PW.gT, PW.gUn, PW.wC, PW.wV, PW.rN, PW.rE, PW.peek, PW.wUn, PW.wBin, PW.wLk, PW.wLk2, PW.wLkR, PW.wLkB, PW.tB, PW.tTr, PW.truth, PW.tAnd, PW.tOr, PW.tNot, PW.tYes, PW.wAnd, PW.wOr, PW.wNot, PW.wIf, PW.wChain, PW.aNil, PW.aCons, PW.wTup, PW.nLst, PW.nCat, PW.nRep, PW.wPart, PW.fSl, PW.wSl, PW.nSl, PW.wSlL, PW.fAdd, PW.fSub, PW.fMul, PW.fFdiv, PW.fMod, PW.fPow, PW.fShl, PW.fShr, PW.fAnd, PW.fOr, PW.fXor, PW.fNeg, PW.fLt, PW.fLe, PW.fGt, PW.fGe, PW.fEq, PW.fNe, PW.fIsNone, PW.fIsntNone, PW.isNon, PW.fIn, PW.fNotIn, PW.fIx, PW.fLen, PW.fInt, PW.fAbs, PW.fMax2, PW.fMin2, PW.fTuple, PW.fList, PW.fMaxL, PW.fMinL, PW.fIs, PW.isTy, PW.fIsO, PW.fFld, PW.fCon, PW.fTab, PW.fInTab, PW.fNInTab, PW.plain, PW.plainL, PW.eqv, PW.eqvL, PW.small, PW.putO, PW.free, PW.isBo_sh, PW.isBo_un, PW.isBo_ow, PW.isBo_rd, PW.wipe, PW.unwipe, PW.isLst, PW.putF, PW.iSeq, PW.iStr, PW.iRng1, PW.iRng2, PW.iRngD, PW.iEnum, PW.iZip, PW.items, PW.bNil, PW.bV, PW.bB, PW.bR, PW.kCall, PW.kMeth, PW.kMake, PW.oV, PW.oR, PW.oB, PW.isObj, PW.isCls, PW.wSh, PW.nFr, PW.wInO, PW.wNInO, PW.call, PW.lent, PW.lentB, PW.lentR, PW.lentOk, PW.back_nil, PW.back_v, PW.back_r, PW.back_b, PW.entry, PW.noX, PW.b2i, PW.nLc, PW.fDget, PW.fDin, PW.fDnin, PW.fDlen, PW.nDit, PW.nDic, PW.sDput, PW.putKv, PW.dKv, PW.fSortSet, PW.wMt, PW.fSIndex, PW.fSFind, PW.isStr, PW.isLst1, PW.nLc2, PW.elt1, PW.elt2, line_eq, natD]
    refine ⟨d, most, hd, by omega, by omega, rfl, fun d1 x hd1 x0 x1 => ?_⟩
    obtain ⟨n, rfl, hn⟩ := nat x0 x1
    simp [PW.sSeq, PW.sPass, PW.sBreak, PW.sCont, PW.sNever, PW.sExpr, PW.sSet, PW.sNew, PW.sPut, PW.sApp, PW.sFld, PW.sAsg, PW.sRet, PW.sRetN, PW.sRetF, PW.sRetO, PW.sIf, PW.sFor, PW.gN, PW.gT, PW.gUn, PW.wC, PW.wV, PW.rN, PW.rE, PW.peek, PW.wUn, PW.wBin, PW.wLk, PW.wLk2, PW.wLkR, PW.wLkB, PW.tB, PW.tTr, PW.truth, PW.tAnd, PW.tOr, PW.tNot, PW.tYes, PW.wAnd, PW.wOr, PW.wNot, PW.wIf, PW.wChain, PW.aNil, PW.aCons, PW.wTup, PW.nLst, PW.nCat, PW.nRep, PW.wPart, PW.fSl, PW.wSl, PW.nSl, PW.wSlL, PW.fAdd, PW.fSub, PW.fMul, PW.fFdiv, PW.fMod, PW.fPow, PW.fShl, PW.fShr, PW.fAnd, PW.fOr, PW.fXor, PW.fNeg, PW.fLt, PW.fLe, PW.fGt, PW.fGe, PW.fEq, PW.fNe, PW.fIsNone, PW.fIsntNone, PW.isNon, PW.fIn, PW.fNotIn, PW.fIx, PW.fLen, PW.fInt, PW.fAbs, PW.fMax2, PW.fMin2, PW.fTuple, PW.fList, PW.fMaxL, PW.fMinL, PW.fIs, PW.isTy, PW.fIsO, PW.fFld, PW.fCon, PW.fTab, PW.fInTab, PW.fNInTab, PW.plain, PW.plainL, PW.eqv, PW.eqvL, PW.small, PW.putO, PW.free, PW.isBo_sh, PW.isBo_un, PW.isBo_ow, PW.isBo_rd, PW.wipe, PW.unwipe, PW.isLst, PW.putF, PW.iSeq, PW.iStr, PW.iRng1, PW.iRng2, PW.iRngD, PW.iEnum, PW.iZip, PW.items, PW.bNil, PW.bV, PW.bB, PW.bR, PW.kCall, PW.kMeth, PW.kMake, PW.oV, PW.oR, PW.oB, PW.isObj, PW.isCls, PW.wSh, PW.nFr, PW.wInO, PW.wNInO, PW.call, PW.lent, PW.lentB, PW.lentR, PW.lentOk, PW.back_nil, PW.back_v, PW.back_r, PW.back_b, PW.entry, PW.noX, PW.b2i, PW.nLc, PW.fDget, PW.fDin, PW.fDnin, PW.fDlen, PW.nDit, PW.nDic, PW.sDput, PW.putKv, PW.dKv, PW.fSortSet, PW.wMt, PW.fSIndex, PW.fSFind, PW.isStr, PW.isLst1, PW.nLc2, PW.elt1, PW.elt2, line_eq]; exact hK _ ⟨d1, n, hd1, hn, rfl⟩
  rintro ρ ⟨d, n, hd, hn, rfl⟩
  refine seq_cut (fun ρ => ∃ d n, IsSt d ∧ n ≤ 10 ∧ ρ = [.bo d, .sh (.str s), .sh (natD r), .sh (.str [c]), .sh (natD most), .sh (natD m), .sh (natD n), .un, .un, .un, .un, .un]) (fun K hK => ?_) ?_
  · simp [PW.sSeq, PW.sPass, PW.sBreak, PW.sCont, PW.sNever, PW.sExpr, PW.sSet, PW.sNew, PW.sPut, PW.sApp, PW.sFld, PW.sAsg, PW.sRet, PW.sRetN, PW.sRetF, PW.sRetO, PW.sIf, PW.sFor, PW.gN, PW.gT, PW.gUn, PW.wC, PW.wV, PW.rN, PW.rE, PW.peek, PW.wUn, PW.wBin, PW.wLk, PW.wLk2, PW.wLkR, PW.wLkB, PW.tB, PW.tTr, PW.truth, PW.tAnd, PW.tOr, PW.tNot, PW.tYes, PW.wAnd, PW.wOr, PW.wNot, PW.wIf, PW.wChain, PW.aNil, PW.aCons, PW.wTup, PW.nLst, PW.nCat, PW.nRep, PW.wPart, PW.fSl, PW.wSl, PW.nSl, PW.wSlL, PW.fAdd, PW.fSub, PW.fMul, PW.fFdiv, PW.fMod, PW.fPow, PW.fShl, PW.fShr, PW.fAnd, PW.fOr, PW.fXor, PW.fNeg, PW.fLt, PW.fLe, PW.fGt, PW.fGe, PW.fEq, PW.fNe, PW.fIsNone, PW.fIsntNone, PW.isNon, PW.fIn, PW.fNotIn, PW.fIx, PW.fLen, PW.fInt, PW.fAbs, PW.fMax2, PW.fMin2, PW.fTuple, PW.fList, PW.fMaxL, PW.fMinL, PW.fIs, PW.isTy, PW.fIsO, PW.fFld, PW.fCon, PW.fTab, PW.fInTab, PW.fNInTab, PW.plain, PW.plainL, PW.eqv, PW.eqvL, PW.small, PW.putO, PW.free, PW.isBo_sh, PW.isBo_un, PW.isBo_ow, PW.isBo_rd, PW.wipe, PW.unwipe, PW.isLst, PW.putF, PW.iSeq, PW.iStr, PW.iRng1, PW.iRng2, PW.iRngD, PW.iEnum, PW.iZip, PW.items, PW.bNil, PW.bV, PW.bB, PW.bR, PW.kCall, PW.kMeth, PW.kMake, PW.oV, PW.oR, PW.oB, PW.isObj, PW.isCls, PW.wSh, PW.nFr, PW.wInO, PW.wNInO, PW.call, PW.lent, PW.lentB, PW.lentR, PW.lentOk, PW.back_nil, PW.back_v, PW.back_r, PW.back_b, PW.entry, PW.noX, PW.b2i, PW.nLc, PW.fDget, PW.fDin, PW.fDnin, PW.fDlen, PW.nDit, PW.nDic, PW.sDput, PW.putKv, PW.dKv, PW.fSortSet, PW.wMt, PW.fSIndex, PW.fSFind, PW.isStr, PW.isLst1, PW.nLc2, PW.elt1, PW.elt2, line_eq, natD]
    refine ⟨d, 2, hd, by omega, by omega, rfl, fun d1 x hd1 x0 x1 => ?_⟩
    simp [PW.sSeq, PW.sPass, PW.sBreak, PW.sCont, PW.sNever, PW.sExpr, PW.sSet, PW.sNew, PW.sPut, PW.sApp, PW.sFld, PW.sAsg, PW.sRet, PW.sRetN, PW.sRetF, PW.sRetO, PW.sIf, PW.sFor, PW.gN, PW.gT, PW.gUn, PW.wC, PW.wV, PW.rN, PW.rE, PW.peek, PW.wUn, PW.wBin, PW.wLk, PW.wLk2, PW.wLkR, PW.wLkB, PW.tB, PW.tTr, PW.truth, PW.tAnd, PW.tOr, PW.tNot, PW.tYes, PW.wAnd, PW.wOr, PW.wNot, PW.wIf, PW.wChain, PW.aNil, PW.aCons, PW.wTup, PW.nLst, PW.nCat, PW.nRep, PW.wPart, PW.fSl, PW.wSl, PW.nSl, PW.wSlL, PW.fAdd, PW.fSub, PW.fMul, PW.fFdiv, PW.fMod, PW.fPow, PW.fShl, PW.fShr, PW.fAnd, PW.fOr, PW.fXor, PW.fNeg, PW.fLt, PW.fLe, PW.fGt, PW.fGe, PW.fEq, PW.fNe, PW.fIsNone, PW.fIsntNone, PW.isNon, PW.fIn, PW.fNotIn, PW.fIx, PW.fLen, PW.fInt, PW.fAbs, PW.fMax2, PW.fMin2, PW.fTuple, PW.fList, PW.fMaxL, PW.fMinL, PW.fIs, PW.isTy, PW.fIsO, PW.fFld, PW.fCon, PW.fTab, PW.fInTab, PW.fNInTab, PW.plain, PW.plainL, PW.eqv, PW.eqvL, PW.small, PW.putO, PW.free, PW.isBo_sh, PW.isBo_un, PW.isBo_ow, PW.isBo_rd, PW.wipe, PW.unwipe, PW.isLst, PW.putF, PW.iSeq, PW.iStr, PW.iRng1, PW.iRng2, PW.iRngD, PW.iEnum, PW.iZip, PW.items, PW.bNil, PW.bV, PW.bB, PW.bR, PW.kCall, PW.kMeth, PW.kMake, PW.oV, PW.oR, PW.oB, PW.isObj, PW.isCls, PW.wSh, PW.nFr, PW.wInO, PW.wNInO, PW.call, PW.lent, PW.lentB, PW.lentR, PW.lentOk, PW.back_nil, PW.back_v, PW.back_r, PW.back_b, PW.entry, PW.noX, PW.b2i, PW.nLc, PW.fDget, PW.fDin, PW.fDnin, PW.fDlen, PW.nDit, PW.nDic, PW.sDput, PW.putKv, PW.dKv, PW.fSortSet, PW.wMt, PW.fSIndex, PW.fSFind, PW.isStr, PW.isLst1, PW.nLc2, PW.elt1, PW.elt2, line_eq]
    by_cases cx : x = 1
    · simp [PW.sSeq, PW.sPass, PW.sBreak, PW.sCont, PW.sNever, PW.sExpr, PW.sSet, PW.sNew, PW.sPut, PW.sApp, PW.sFld, PW.sAsg, PW.sRet, PW.sRetN, PW.sRetF, PW.sRetO, PW.sIf, PW.sFor, PW.gN, PW.gT, PW.gUn, PW.wC, PW.wV, PW.rN, PW.rE, PW.peek, PW.wUn, PW.wBin, PW.wLk, PW.wLk2, PW.wLkR, PW.wLkB, PW.tB, PW.tTr, PW.truth, PW.tAnd, PW.tOr, PW.tNot, PW.tYes, PW.wAnd, PW.wOr, PW.wNot, PW.wIf, PW.wChain, PW.aNil, PW.aCons, PW.wTup, PW.nLst, PW.nCat, PW.nRep, PW.wPart, PW.fSl, PW.wSl, PW.nSl, PW.wSlL, PW.fAdd, PW.fSub, PW.fMul, PW.fFdiv, PW.fMod, PW.fPow, PW.fShl, PW.fShr, PW.fAnd, PW.fOr, PW.fXor, PW.fNeg, PW.fLt, PW.fLe, PW.fGt, PW.fGe, PW.fEq, PW.fNe, PW.fIsNone, PW.fIsntNone, PW.isNon, PW.fIn, PW.fNotIn, PW.fIx, PW.fLen, PW.fInt, PW.fAbs, PW.fMax2, PW.fMin2, PW.fTuple, PW.fList, PW.fMaxL, PW.fMinL, PW.fIs, PW.isTy, PW.fIsO, PW.fFld, PW.fCon, PW.fTab, PW.fInTab, PW.fNInTab, PW.plain, PW.plainL, PW.eqv, PW.eqvL, PW.small, PW.putO, PW.free, PW.isBo_sh, PW.isBo_un, PW.isBo_ow, PW.isBo_rd, PW.wipe, PW.unwipe, PW.isLst, PW.putF, PW.iSeq, PW.iStr, PW.iRng1, PW.iRng2, PW.iRngD, PW.iEnum, PW.iZip, PW.items, PW.bNil, PW.bV, PW.bB, PW.bR, PW.kCall, PW.kMeth, PW.kMake, PW.oV, PW.oR, PW.oB, PW.isObj, PW.isCls, PW.wSh, PW.nFr, PW.wInO, PW.wNInO, PW.call, PW.lent, PW.lentB, PW.lentR, PW.lentOk, PW.back_nil, PW.back_v, PW.back_r, PW.back_b, PW.entry, PW.noX, PW.b2i, PW.nLc, PW.fDget, PW.fDin, PW.fDnin, PW.fDlen, PW.nDit, PW.nDic, PW.sDput, PW.putKv, PW.dKv, PW.fSortSet, PW.wMt, PW.fSIndex, PW.fSFind, PW.isStr, PW.isLst1, PW.nLc2, PW.elt1, PW.elt2, line_eq, cx]
      by_cases cm : (m : Int) - 1 > 0
      · have e : ((m : Int) - 1) = ((m - 1 : Nat) : Int) := by omega
        have cm' : (1 : Int) < m := by omega
        simp [cm']
        exact hK _ ⟨d1, m - 1, hd1, by omega, by rw [e]; rfl⟩
      · have cm' : ¬ (1 : Int) < m := by omega
        simp [cm']
        exact hK _ ⟨d1, 0, hd1, by omega, rfl⟩
    · simp [PW.sSeq, PW.sPass, PW.sBreak, PW.sCont, PW.sNever, PW.sExpr, PW.sSet, PW.sNew, PW.sPut, PW.sApp, PW.sFld, PW.sAsg, PW.sRet, PW.sRetN, PW.sRetF, PW.sRetO, PW.sIf, PW.sFor, PW.gN, PW.gT, PW.gUn, PW.wC, PW.wV, PW.rN, PW.rE, PW.peek, PW.wUn, PW.wBin, PW.wLk, PW.wLk2, PW.wLkR, PW.wLkB, PW.tB, PW.tTr, PW.truth, PW.tAnd, PW.tOr, PW.tNot, PW.tYes, PW.wAnd, PW.wOr, PW.wNot, PW.wIf, PW.wChain, PW.aNil, PW.aCons, PW.wTup, PW.nLst, PW.nCat, PW.nRep, PW.wPart, PW.fSl, PW.wSl, PW.nSl, PW.wSlL, PW.fAdd, PW.fSub, PW.fMul, PW.fFdiv, PW.fMod, PW.fPow, PW.fShl, PW.fShr, PW.fAnd, PW.fOr, PW.fXor, PW.fNeg, PW.fLt, PW.fLe, PW.fGt, PW.fGe, PW.fEq, PW.fNe, PW.fIsNone, PW.fIsntNone, PW.isNon, PW.fIn, PW.fNotIn, PW.fIx, PW.fLen, PW.fInt, PW.fAbs, PW.fMax2, PW.fMin2, PW.fTuple, PW.fList, PW.fMaxL, PW.fMinL, PW.fIs, PW.isTy, PW.fIsO, PW.fFld, PW.fCon, PW.fTab, PW.fInTab, PW.fNInTab, PW.plain, PW.plainL, PW.eqv, PW.eqvL, PW.small, PW.putO, PW.free, PW.isBo_sh, PW.isBo_un, PW.isBo_ow, PW.isBo_rd, PW.wipe, PW.unwipe, PW.isLst, PW.putF, PW.iSeq, PW.iStr, PW.iRng1, PW.iRng2, PW.iRngD, PW.iEnum, PW.iZip, PW.items, PW.bNil, PW.bV, PW.bB, PW.bR, PW.kCall, PW.kMeth, PW.kMake, PW.oV, PW.oR, PW.oB, PW.isObj, PW.isCls, PW.wSh, PW.nFr, PW.wInO, PW.wNInO, PW.call, PW.lent, PW.lentB, PW.lentR, PW.lentOk, PW.back_nil, PW.back_v, PW.back_r, PW.back_b, PW.entry, PW.noX, PW.b2i, PW.nLc, PW.fDget, PW.fDin, PW.fDnin, PW.fDlen, PW.nDit, PW.nDic, PW.sDput, PW.putKv, PW.dKv, PW.fSortSet, PW.wMt, PW.fSIndex, PW.fSFind, PW.isStr, PW.isLst1, PW.nLc2, PW.elt1, PW.elt2, line_eq, cx]
      exact hK _ ⟨d1, n, hd1, hn, rfl⟩
  clear hn
  rintro ρ ⟨d, n, hd, hn, rfl⟩
  refine seq_cut (fun ρ => ρ = [.bo d, .sh (.str s), .sh (natD r), .sh (.str [c]), .sh (natD most), .sh (natD m), .sh (natD n), .sh (natD (2 ^ r - 1)), .un, .un, .un, .un]) (fun K hK => ?_) ?_
  · simp [PW.sSeq, PW.sPass, PW.sBreak, PW.sCont, PW.sNever, PW.sExpr, PW.sSet, PW.sNew, PW.sPut, PW.sApp, PW.sFld, PW.sAsg, PW.sRet, PW.sRetN, PW.sRetF, PW.sRetO, PW.sIf, PW.sFor, PW.gN, PW.gT, PW.gUn, PW.wC, PW.wV, PW.rN, PW.rE, PW.peek, PW.wUn, PW.wBin, PW.wLk, PW.wLk2, PW.wLkR, PW.wLkB, PW.tB, PW.tTr, PW.truth, PW.tAnd, PW.tOr, PW.tNot, PW.tYes, PW.wAnd, PW.wOr, PW.wNot, PW.wIf, PW.wChain, PW.aNil, PW.aCons, PW.wTup, PW.nLst, PW.nCat, PW.nRep, PW.wPart, PW.fSl, PW.wSl, PW.nSl, PW.wSlL, PW.fAdd, PW.fSub, PW.fMul, PW.fFdiv, PW.fMod, PW.fPow, PW.fShl, PW.fShr, PW.fAnd, PW.fOr, PW.fXor, PW.fNeg, PW.fLt, PW.fLe, PW.fGt, PW.fGe, PW.fEq, PW.fNe, PW.fIsNone, PW.fIsntNone, PW.isNon, PW.fIn, PW.fNotIn, PW.fIx, PW.fLen, PW.fInt, PW.fAbs, PW.fMax2, PW.fMin2, PW.fTuple, PW.fList, PW.fMaxL, PW.fMinL, PW.fIs, PW.isTy, PW.fIsO, PW.fFld, PW.fCon, PW.fTab, PW.fInTab, PW.fNInTab, PW.plain, PW.plainL, PW.eqv, PW.eqvL, PW.small, PW.putO, PW.free, PW.isBo_sh, PW.isBo_un, PW.isBo_ow, PW.isBo_rd, PW.wipe, PW.unwipe, PW.isLst, PW.putF, PW.iSeq, PW.iStr, PW.iRng1, PW.iRng2, PW.iRngD, PW.iEnum, PW.iZip, PW.items, PW.bNil, PW.bV, PW.bB, PW.bR, PW.kCall, PW.kMeth, PW.kMake, PW.oV, PW.oR, PW.oB, PW.isObj, PW.isCls, PW.wSh, PW.nFr, PW.wInO, PW.wNInO, PW.call, PW.lent, PW.lentB, PW.lentR, PW.lentOk, PW.back_nil, PW.back_v, PW.back_r, PW.back_b, PW.entry, PW.noX, PW.b2i, PW.nLc, PW.fDget, PW.fDin, PW.fDnin, PW.fDlen, PW.nDit, PW.nDic, PW.sDput, PW.putKv, PW.dKv, PW.fSortSet, PW.wMt, PW.fSIndex, PW.fSFind, PW.isStr, PW.isLst1, PW.nLc2, PW.elt1, PW.elt2, line_eq, natD]
    refine ⟨by omega, ?_⟩
    have e := shl1 r
    simp at e
    rw [e]
    exact hK _ rfl
  rintro ρ rfl
  refine seq_cut (fun ρ => ∃ b, (b = true ↔ Al r (pw [c] m) (pw [c] n)) ∧ ρ = [.bo d, .sh (.str s), .sh (natD r), .sh (.str [c]), .sh (natD most), .sh (natD m), .sh (natD n), .sh (natD (2 ^ r - 1)), .sh (.bl b), .un, .un, .un]) (fun K hK => ?_) ?_
  · have fin : ∀ b : Bool, (b = true ↔ (m = n ∨ (2 ^ r - 1 ≤ m ∧ 2 ^ r - 1 ≤ n))) → K [.bo d, .sh (.str s), .sh (natD r), .sh (.str [c]), .sh (natD most), .sh (natD m), .sh (natD n), .sh (natD (2 ^ r - 1)), .sh (.bl b), .un, .un, .un] := fun b hb => hK _ ⟨b, hb.trans (pow_iff c r m n).symm, rfl⟩
    simp [PW.sSeq, PW.sPass, PW.sBreak, PW.sCont, PW.sNever, PW.sExpr, PW.sSet, PW.sNew, PW.sPut, PW.sApp, PW.sFld, PW.sAsg, PW.sRet, PW.sRetN, PW.sRetF, PW.sRetO, PW.sIf, PW.sFor, PW.gN, PW.gT, PW.gUn, PW.wC, PW.wV, PW.rN, PW.rE, PW.peek, PW.wUn, PW.wBin, PW.wLk, PW.wLk2, PW.wLkR, PW.wLkB, PW.tB, PW.tTr, PW.truth, PW.tAnd, PW.tOr, PW.tNot, PW.tYes, PW.wAnd, PW.wOr, PW.wNot, PW.wIf, PW.wChain, PW.aNil, PW.aCons, PW.wTup, PW.nLst, PW.nCat, PW.nRep, PW.wPart, PW.fSl, PW.wSl, PW.nSl, PW.wSlL, PW.fAdd, PW.fSub, PW.fMul, PW.fFdiv, PW.fMod, PW.fPow, PW.fShl, PW.fShr, PW.fAnd, PW.fOr, PW.fXor, PW.fNeg, PW.fLt, PW.fLe, PW.fGt, PW.fGe, PW.fEq, PW.fNe, PW.fIsNone, PW.fIsntNone, PW.isNon, PW.fIn, PW.fNotIn, PW.fIx, PW.fLen, PW.fInt, PW.fAbs, PW.fMax2, PW.fMin2, PW.fTuple, PW.fList, PW.fMaxL, PW.fMinL, PW.fIs, PW.isTy, PW.fIsO, PW.fFld, PW.fCon, PW.fTab, PW.fInTab, PW.fNInTab, PW.plain, PW.plainL, PW.eqv, PW.eqvL, PW.small, PW.putO, PW.free, PW.isBo_sh, PW.isBo_un, PW.isBo_ow, PW.isBo_rd, PW.wipe, PW.unwipe, PW.isLst, PW.putF, PW.iSeq, PW.iStr, PW.iRng1, PW.iRng2, PW.iRngD, PW.iEnum, PW.iZip, PW.items, PW.bNil, PW.bV, PW.bB, PW.bR, PW.kCall, PW.kMeth, PW.kMake, PW.oV, PW.oR, PW.oB, PW.isObj, PW.isCls, PW.wSh, PW.nFr, PW.wInO, PW.wNInO, PW.call, PW.lent, PW.lentB, PW.lentR, PW.lentOk, PW.back_nil, PW.back_v, PW.back_r, PW.back_b, PW.entry, PW.noX, PW.b2i, PW.nLc, PW.fDget, PW.fDin, PW.fDnin, PW.fDlen, PW.nDit, PW.nDic, PW.sDput, PW.putKv, PW.dKv, PW.fSortSet, PW.wMt, PW.fSIndex, PW.fSFind, PW.isStr, PW.isLst1, PW.nLc2, PW.elt1, PW.elt2, line_eq, natD]
    by_cases c1 : (m : Int) = n
    · simp [c1]
      have := fin true (by simp; omega)
      simpa [natD, c1] using this
    · simp [c1]
      split
      · rename_i c2
        have := fin (decide (2 ^ r ≤ n + 1)) (by simp; omega)
        simpa [natD] using this
      · rename_i c2
        have := fin false (by simp; omega)
        simpa [natD] using this
  rintro ρ ⟨b, hb, rfl⟩
  have oc : ∀ n, Over s (pw [c] n) := Over.pw (fun z hz => by simp at hz; subst hz; exact hc)
  have lc : ∀ n, (pw [c] n).length = n := fun n => by rw [pw_len]; simp
  refine seq_cut (fun ρ => ρ = [.bo d, .sh (.str s), .sh (natD r), .sh (.str [c]), .sh (natD most), .sh (natD m), .sh (natD n), .sh (natD (2 ^ r - 1)), .sh (.bl b), .un, .un, .un]) (fun K hK => ?_) ?_
  · simp [PW.sSeq, PW.sPass, PW.sBreak, PW.sCont, PW.sNever, PW.sExpr, PW.sSet, PW.sNew, PW.sPut, PW.sApp, PW.sFld, PW.sAsg, PW.sRet, PW.sRetN, PW.sRetF, PW.sRetO, PW.sIf, PW.sFor, PW.gN, PW.gT, PW.gUn, PW.wC, PW.wV, PW.rN, PW.rE, PW.peek, PW.wUn, PW.wBin, PW.wLk, PW.wLk2, PW.wLkR, PW.wLkB, PW.tB, PW.tTr, PW.truth, PW.tAnd, PW.tOr, PW.tNot, PW.tYes, PW.wAnd, PW.wOr, PW.wNot, PW.wIf, PW.wChain, PW.aNil, PW.aCons, PW.wTup, PW.nLst, PW.nCat, PW.nRep, PW.wPart, PW.fSl, PW.wSl, PW.nSl, PW.wSlL, PW.fAdd, PW.fSub, PW.fMul, PW.fFdiv, PW.fMod, PW.fPow, PW.fShl, PW.fShr, PW.fAnd, PW.fOr, PW.fXor, PW.fNeg, PW.fLt, PW.fLe, PW.fGt, PW.fGe, PW.fEq, PW.fNe, PW.fIsNone, PW.fIsntNone, PW.isNon, PW.fIn, PW.fNotIn, PW.fIx, PW.fLen, PW.fInt, PW.fAbs, PW.fMax2, PW.fMin2, PW.fTuple, PW.fList, PW.fMaxL, PW.fMinL, PW.fIs, PW.isTy, PW.fIsO, PW.fFld, PW.fCon, PW.fTab, PW.fInTab, PW.fNInTab, PW.plain, PW.plainL, PW.eqv, PW.eqvL, PW.small, PW.putO, PW.free, PW.isBo_sh, PW.isBo_un, PW.isBo_ow, PW.isBo_rd, PW.wipe, PW.unwipe, PW.isLst, PW.putF, PW.iSeq, PW.iStr, PW.iRng1, PW.iRng2, PW.iRngD, PW.iEnum, PW.iZip, PW.items, PW.bNil, PW.bV, PW.bB, PW.bR, PW.kCall, PW.kMeth, PW.kMake, PW.oV, PW.oR, PW.oB, PW.isObj, PW.isCls, PW.wSh, PW.nFr, PW.wInO, PW.wNInO, PW.call, PW.lent, PW.lentB, PW.lentR, PW.lentOk, PW.back_nil, PW.back_v, PW.back_r, PW.back_b, PW.entry, PW.noX, PW.b2i, PW.nLc, PW.fDget, PW.fDin, PW.fDnin, PW.fDlen, PW.nDit, PW.nDic, PW.sDput, PW.putKv, PW.dKv, PW.fSortSet, PW.wMt, PW.fSIndex, PW.fSFind, PW.isStr, PW.isLst1, PW.nLc2, PW.elt1, PW.elt2, line_eq, natD, repL_pw]
    refine ⟨⟨by omega, by omega⟩, ⟨by omega, by omega⟩, s, pw [c] m, pw [c] n, r, hs, oc m, oc n, by rw [lc]; omega, by rw [lc]; omega, hr, rfl, fun b2 os hb2 => ?_⟩
    simp [PW.sSeq, PW.sPass, PW.sBreak, PW.sCont, PW.sNever, PW.sExpr, PW.sSet, PW.sNew, PW.sPut, PW.sApp, PW.sFld, PW.sAsg, PW.sRet, PW.sRetN, PW.sRetF, PW.sRetO, PW.sIf, PW.sFor, PW.gN, PW.gT, PW.gUn, PW.wC, PW.wV, PW.rN, PW.rE, PW.peek, PW.wUn, PW.wBin, PW.wLk, PW.wLk2, PW.wLkR, PW.wLkB, PW.tB, PW.tTr, PW.truth, PW.tAnd, PW.tOr, PW.tNot, PW.tYes, PW.wAnd, PW.wOr, PW.wNot, PW.wIf, PW.wChain, PW.aNil, PW.aCons, PW.wTup, PW.nLst, PW.nCat, PW.nRep, PW.wPart, PW.fSl, PW.wSl, PW.nSl, PW.wSlL, PW.fAdd, PW.fSub, PW.fMul, PW.fFdiv, PW.fMod, PW.fPow, PW.fShl, PW.fShr, PW.fAnd, PW.fOr, PW.fXor, PW.fNeg, PW.fLt, PW.fLe, PW.fGt, PW.fGe, PW.fEq, PW.fNe, PW.fIsNone, PW.fIsntNone, PW.isNon, PW.fIn, PW.fNotIn, PW.fIx, PW.fLen, PW.fInt, PW.fAbs, PW.fMax2, PW.fMin2, PW.fTuple, PW.fList, PW.fMaxL, PW.fMinL, PW.fIs, PW.isTy, PW.fIsO, PW.fFld, PW.fCon, PW.fTab, PW.fInTab, PW.fNInTab, PW.plain, PW.plainL, PW.eqv, PW.eqvL, PW.small, PW.putO, PW.free, PW.isBo_sh, PW.isBo_un, PW.isBo_ow, PW.isBo_rd, PW.wipe, PW.unwipe, PW.isLst, PW.putF, PW.iSeq, PW.iStr, PW.iRng1, PW.iRng2, PW.iRngD, PW.iEnum, PW.iZip, PW.items, PW.bNil, PW.bV, PW.bB, PW.bR, PW.kCall, PW.kMeth, PW.kMake, PW.oV, PW.oR, PW.oB, PW.isObj, PW.isCls, PW.wSh, PW.nFr, PW.wInO, PW.wNInO, PW.call, PW.lent, PW.lentB, PW.lentR, PW.lentOk, PW.back_nil, PW.back_v, PW.back_r, PW.back_b, PW.entry, PW.noX, PW.b2i, PW.nLc, PW.fDget, PW.fDin, PW.fDnin, PW.fDlen, PW.nDit, PW.nDic, PW.sDput, PW.putKv, PW.dKv, PW.fSortSet, PW.wMt, PW.fSIndex, PW.fSFind, PW.isStr, PW.isLst1, PW.nLc2, PW.elt1, PW.elt2, line_eq]
    rw [bool_of hb2 hb]
    refine same_bl b fun os => ?_
    exact hK _ rfl
  rintro ρ rfl
  refine seq_cut (fun ρ => ∃ k, 1 ≤ k ∧ k ≤ 3 ∧ ρ = [.bo d, .sh (.str s), .sh (natD r), .sh (.str [c]), .sh (natD most), .sh (natD m), .sh (natD n), .sh (natD (2 ^ r - 1)), .sh (.bl b), .sh (natD k), .un, .un]) (fun K hK => ?_) ?_
  · simp [PW.sSeq, PW.sPass, PW.sBreak, PW.sCont, PW.sNever, PW.sExpr, PW.sSet, PW.sNew, PW.sPut, PW.sApp, PW.sFld, PW.sAsg, PW.sRet, PW.sRetN, PW.sRetF, PW.sRetO, PW.sIf, PW.sFor, PW.gN, PW.gT, PW.gUn, PW.wC, PW.wV, PW.rN, PW.rE, PW.peek, PW.wUn, PW.wBin, PW.wLk, PW.wLk2, PW.wLkR, PW.wLkB, PW.tB, PW.tTr, PW.truth, PW.tAnd, PW.tOr, PW.tNot, PW.tYes, PW.wAnd, PW.wOr, PW.wNot, PW.wIf, PW.wChain, PW.aNil, PW.aCons, PW.wTup, PW.nLst, PW.nCat, PW.nRep, PW.wPart, PW.fSl, PW.wSl, PW.nSl, PW.wSlL, PW.fAdd, PW.fSub, PW.fMul, PW.fFdiv, PW.fMod, PW.fPow, PW.fShl, PW.fShr, PW.fAnd, PW.fOr, PW.fXor, PW.fNeg, PW.fLt, PW.fLe, PW.fGt, PW.fGe, PW.fEq, PW.fNe, PW.fIsNone, PW.fIsntNone, PW.isNon, PW.fIn, PW.fNotIn, PW.fIx, PW.fLen, PW.fInt, PW.fAbs, PW.fMax2, PW.fMin2, PW.fTuple, PW.fList, PW.fMaxL, PW.fMinL, PW.fIs, PW.isTy, PW.fIsO, PW.fFld, PW.fCon, PW.fTab, PW.fInTab, PW.fNInTab, PW.plain, PW.plainL, PW.eqv, PW.eqvL, PW.small, PW.putO, PW.free, PW.isBo_sh, PW.isBo_un, PW.isBo_ow, PW.isBo_rd, PW.wipe, PW.unwipe, PW.isLst, PW.putF, PW.iSeq, PW.iStr, PW.iRng1, PW.iRng2, PW.iRngD, PW.iEnum, PW.iZip, PW.items, PW.bNil, PW.bV, PW.bB, PW.bR, PW.kCall, PW.kMeth, PW.kMake, PW.oV, PW.oR, PW.oB, PW.isObj, PW.isCls, PW.wSh, PW.nFr, PW.wInO, PW.wNInO, PW.call, PW.lent, PW.lentB, PW.lentR, PW.lentOk, PW.back_nil, PW.back_v, PW.back_r, PW.back_b, PW.entry, PW.noX, PW.b2i, PW.nLc, PW.fDget, PW.fDin, PW.fDnin, PW.fDlen, PW.nDit, PW.nDic, PW.sDput, PW.putKv, PW.dKv, PW.fSortSet, PW.wMt, PW.fSIndex, PW.fSFind, PW.isStr, PW.isLst1, PW.nLc2, PW.elt1, PW.elt2, line_eq, natD]
    by_cases c1 : (r : Int) > 1
    · have c1' : (1 : Int) < r := c1
      rw [if_pos c1']
      exact hK _ ⟨r, by omega, hr, rfl⟩
    · have c1' : ¬ (1 : Int) < r := c1
      rw [if_neg c1']
      exact hK _ ⟨1, by omega, by omega, rfl⟩
  rintro ρ ⟨k, hk1, hk3, rfl⟩
  have h2k := two_le hk3
  have h1k : 2 ≤ 2 ^ k := by
    have : 2 ^ 1 ≤ 2 ^ k := Nat.pow_le_pow_right (by decide) hk1
    omega
  refine seq_cut (fun ρ => ρ = [.bo d, .sh (.str s), .sh (natD r), .sh (.str [c]), .sh (natD most), .sh (natD m), .sh (natD n), .sh (natD (2 ^ r - 1)), .sh (.bl b), .sh (natD k), .sh (.str (pw [c] (2 ^ k - 2))), .un]) (fun K hK => ?_) ?_
  · have e : (1 : Int) * 2 ^ (k : Int).toNat - 2 = ((2 ^ k - 2 : Nat) : Int) := by
      rw [Int.toNat_natCast, Int.one_mul]
      push_cast [Int.natCast_sub h1k]
      rfl
    simp at e
    simp [PW.sSeq, PW.sPass, PW.sBreak, PW.sCont, PW.sNever, PW.sExpr, PW.sSet, PW.sNew, PW.sPut, PW.sApp, PW.sFld, PW.sAsg, PW.sRet, PW.sRetN, PW.sRetF, PW.sRetO, PW.sIf, PW.sFor, PW.gN, PW.gT, PW.gUn, PW.wC, PW.wV, PW.rN, PW.rE, PW.peek, PW.wUn, PW.wBin, PW.wLk, PW.wLk2, PW.wLkR, PW.wLkB, PW.tB, PW.tTr, PW.truth, PW.tAnd, PW.tOr, PW.tNot, PW.tYes, PW.wAnd, PW.wOr, PW.wNot, PW.wIf, PW.wChain, PW.aNil, PW.aCons, PW.wTup, PW.nLst, PW.nCat, PW.nRep, PW.wPart, PW.fSl, PW.wSl, PW.nSl, PW.wSlL, PW.fAdd, PW.fSub, PW.fMul, PW.fFdiv, PW.fMod, PW.fPow, PW.fShl, PW.fShr, PW.fAnd, PW.fOr, PW.fXor, PW.fNeg, PW.fLt, PW.fLe, PW.fGt, PW.fGe, PW.fEq, PW.fNe, PW.fIsNone, PW.fIsntNone, PW.isNon, PW.fIn, PW.fNotIn, PW.fIx, PW.fLen, PW.fInt, PW.fAbs, PW.fMax2, PW.fMin2, PW.fTuple, PW.fList, PW.fMaxL, PW.fMinL, PW.fIs, PW.isTy, PW.fIsO, PW.fFld, PW.fCon, PW.fTab, PW.fInTab, PW.fNInTab, PW.plain, PW.plainL, PW.eqv, PW.eqvL, PW.small, PW.putO, PW.free, PW.isBo_sh, PW.isBo_un, PW.isBo_ow, PW.isBo_rd, PW.wipe, PW.unwipe, PW.isLst, PW.putF, PW.iSeq, PW.iStr, PW.iRng1, PW.iRng2, PW.iRngD, PW.iEnum, PW.iZip, PW.items, PW.bNil, PW.bV, PW.bB, PW.bR, PW.kCall, PW.kMeth, PW.kMake, PW.oV, PW.oR, PW.oB, PW.isObj, PW.isCls, PW.wSh, PW.nFr, PW.wInO, PW.wNInO, PW.call, PW.lent, PW.lentB, PW.lentR, PW.lentOk, PW.back_nil, PW.back_v, PW.back_r, PW.back_b, PW.entry, PW.noX, PW.b2i, PW.nLc, PW.fDget, PW.fDin, PW.fDnin, PW.fDlen, PW.nDit, PW.nDic, PW.sDput, PW.putKv, PW.dKv, PW.fSortSet, PW.wMt, PW.fSIndex, PW.fSFind, PW.isStr, PW.isLst1, PW.nLc2, PW.elt1, PW.elt2, line_eq, natD, repL_pw, e]
    exact ⟨by omega, ⟨by omega, by omega⟩, hK _ rfl⟩
  rintro ρ rfl
  have of := oc (2 ^ k - 2)
  have lf := lc (2 ^ k - 2)
  have no1 := not_al (c := c) hk1
  have no2 : ¬ Al k (pw [c] (2 ^ k - 2) ++ [c]) (pw [c] (2 ^ k - 2)) := fun h => no1 h.symm
  generalize pw [c] (2 ^ k - 2) = few at *
  have o1 : Over s (few ++ [c]) := over_app of fun z hz => by simp at hz; subst hz; exact hc
  simp [PW.sSeq, PW.sPass, PW.sBreak, PW.sCont, PW.sNever, PW.sExpr, PW.sSet, PW.sNew, PW.sPut, PW.sApp, PW.sFld, PW.sAsg, PW.sRet, PW.sRetN, PW.sRetF, PW.sRetO, PW.sIf, PW.sFor, PW.gN, PW.gT, PW.gUn, PW.wC, PW.wV, PW.rN, PW.rE, PW.peek, PW.wUn, PW.wBin, PW.wLk, PW.wLk2, PW.wLkR, PW.wLkB, PW.tB, PW.tTr, PW.truth, PW.tAnd, PW.tOr, PW.tNot, PW.tYes, PW.wAnd, PW.wOr, PW.wNot, PW.wIf, PW.wChain, PW.aNil, PW.aCons, PW.wTup, PW.nLst, PW.nCat, PW.nRep, PW.wPart, PW.fSl, PW.wSl, PW.nSl, PW.wSlL, PW.fAdd, PW.fSub, PW.fMul, PW.fFdiv, PW.fMod, PW.fPow, PW.fShl, PW.fShr, PW.fAnd, PW.fOr, PW.fXor, PW.fNeg, PW.fLt, PW.fLe, PW.fGt, PW.fGe, PW.fEq, PW.fNe, PW.fIsNone, PW.fIsntNone, PW.isNon, PW.fIn, PW.fNotIn, PW.fIx, PW.fLen, PW.fInt, PW.fAbs, PW.fMax2, PW.fMin2, PW.fTuple, PW.fList, PW.fMaxL, PW.fMinL, PW.fIs, PW.isTy, PW.fIsO, PW.fFld, PW.fCon, PW.fTab, PW.fInTab, PW.fNInTab, PW.plain, PW.plainL, PW.eqv, PW.eqvL, PW.small, PW.putO, PW.free, PW.isBo_sh, PW.isBo_un, PW.isBo_ow, PW.isBo_rd, PW.wipe, PW.unwipe, PW.isLst, PW.putF, PW.iSeq, PW.iStr, PW.iRng1, PW.iRng2, PW.iRngD, PW.iEnum, PW.iZip, PW.items, PW.bNil, PW.bV, PW.bB, PW.bR, PW.kCall, PW.kMeth, PW.kMake, PW.oV, PW.oR, PW.oB, PW.isObj, PW.isCls, PW.wSh, PW.nFr, PW.wInO, PW.wNInO, PW.call, PW.lent, PW.lentB, PW.lentR, PW.lentOk, PW.back_nil, PW.back_v, PW.back_r, PW.back_b, PW.entry, PW.noX, PW.b2i, PW.nLc, PW.fDget, PW.fDin, PW.fDnin, PW.fDlen, PW.nDit, PW.nDic, PW.sDput, PW.putKv, PW.dKv, PW.fSortSet, PW.wMt, PW.fSIndex, PW.fSFind, PW.isStr, PW.isLst1, PW.nLc2, PW.elt1, PW.elt2, line_eq]
  refine ⟨by omega, s, few, few ++ [c], k, hs, of, o1, by omega, by simp; omega, hk3, rfl, fun b1 os hb1 => ?_⟩
  simp [PW.sSeq, PW.sPass, PW.sBreak, PW.sCont, PW.sNever, PW.sExpr, PW.sSet, PW.sNew, PW.sPut, PW.sApp, PW.sFld, PW.sAsg, PW.sRet, PW.sRetN, PW.sRetF, PW.sRetO, PW.sIf, PW.sFor, PW.gN, PW.gT, PW.gUn, PW.wC, PW.wV, PW.rN, PW.rE, PW.peek, PW.wUn, PW.wBin, PW.wLk, PW.wLk2, PW.wLkR, PW.wLkB, PW.tB, PW.tTr, PW.truth, PW.tAnd, PW.tOr, PW.tNot, PW.tYes, PW.wAnd, PW.wOr, PW.wNot, PW.wIf, PW.wChain, PW.aNil, PW.aCons, PW.wTup, PW.nLst, PW.nCat, PW.nRep, PW.wPart, PW.fSl, PW.wSl, PW.nSl, PW.wSlL, PW.fAdd, PW.fSub, PW.fMul, PW.fFdiv, PW.fMod, PW.fPow, PW.fShl, PW.fShr, PW.fAnd, PW.fOr, PW.fXor, PW.fNeg, PW.fLt, PW.fLe, PW.fGt, PW.fGe, PW.fEq, PW.fNe, PW.fIsNone, PW.fIsntNone, PW.isNon, PW.fIn, PW.fNotIn, PW.fIx, PW.fLen, PW.fInt, PW.fAbs, PW.fMax2, PW.fMin2, PW.fTuple, PW.fList, PW.fMaxL, PW.fMinL, PW.fIs, PW.isTy, PW.fIsO, PW.fFld, PW.fCon, PW.fTab, PW.fInTab, PW.fNInTab, PW.plain, PW.plainL, PW.eqv, PW.eqvL, PW.small, PW.putO, PW.free, PW.isBo_sh, PW.isBo_un, PW.isBo_ow, PW.isBo_rd, PW.wipe, PW.unwipe, PW.isLst, PW.putF, PW.iSeq, PW.iStr, PW.iRng1, PW.iRng2, PW.iRngD, PW.iEnum, PW.iZip, PW.items, PW.bNil, PW.bV, PW.bB, PW.bR, PW.kCall, PW.kMeth, PW.kMake, PW.oV, PW.oR, PW.oB, PW.isObj, PW.isCls, PW.wSh, PW.nFr, PW.wInO, PW.wNInO, PW.call, PW.lent, PW.lentB, PW.lentR, PW.lentOk, PW.back_nil, PW.back_v, PW.back_r, PW.back_b, PW.entry, PW.noX, PW.b2i, PW.nLc, PW.fDget, PW.fDin, PW.fDnin, PW.fDlen, PW.nDit, PW.nDic, PW.sDput, PW.putKv, PW.dKv, PW.fSortSet, PW.wMt, PW.fSIndex, PW.fSFind, PW.isStr, PW.isLst1, PW.nLc2, PW.elt1, PW.elt2, line_eq]
  refine ⟨by omega, s, few ++ [c], few, k, hs, o1, of, by simp; omega, by omega, hk3, rfl, fun b2 os hb2 => ?_⟩
  have e1 : b1 = false := Bool.eq_false_iff.mpr fun e => no1 (hb1.mp e)
  have e2 : b2 = false := Bool.eq_false_iff.mpr fun e => no2 (hb2.mp e)
  subst e1; subst e2
  simp [PW.sSeq, PW.sPass, PW.sBreak, PW.sCont, PW.sNever, PW.sExpr, PW.sSet, PW.sNew, PW.sPut, PW.sApp, PW.sFld, PW.sAsg, PW.sRet, PW.sRetN, PW.sRetF, PW.sRetO, PW.sIf, PW.sFor, PW.gN, PW.gT, PW.gUn, PW.wC, PW.wV, PW.rN, PW.rE, PW.peek, PW.wUn, PW.wBin, PW.wLk, PW.wLk2, PW.wLkR, PW.wLkB, PW.tB, PW.tTr, PW.truth, PW.tAnd, PW.tOr, PW.tNot, PW.tYes, PW.wAnd, PW.wOr, PW.wNot, PW.wIf, PW.wChain, PW.aNil, PW.aCons, PW.wTup, PW.nLst, PW.nCat, PW.nRep, PW.wPart, PW.fSl, PW.wSl, PW.nSl, PW.wSlL, PW.fAdd, PW.fSub, PW.fMul, PW.fFdiv, PW.fMod, PW.fPow, PW.fShl, PW.fShr, PW.fAnd, PW.fOr, PW.fXor, PW.fNeg, PW.fLt, PW.fLe, PW.fGt, PW.fGe, PW.fEq, PW.fNe, PW.fIsNone, PW.fIsntNone, PW.isNon, PW.fIn, PW.fNotIn, PW.fIx, PW.fLen, PW.fInt, PW.fAbs, PW.fMax2, PW.fMin2, PW.fTuple, PW.fList, PW.fMaxL, PW.fMinL, PW.fIs, PW.isTy, PW.fIsO, PW.fFld, PW.fCon, PW.fTab, PW.fInTab, PW.fNInTab, PW.plain, PW.plainL, PW.eqv, PW.eqvL, PW.small, PW.putO, PW.free, PW.isBo_sh, PW.isBo_un, PW.isBo_ow, PW.isBo_rd, PW.wipe, PW.unwipe, PW.isLst, PW.putF, PW.iSeq, PW.iStr, PW.iRng1, PW.iRng2, PW.iRngD, PW.iEnum, PW.iZip, PW.items, PW.bNil, PW.bV, PW.bB, PW.bR, PW.kCall, PW.kMeth, PW.kMake, PW.oV, PW.oR, PW.oB, PW.isObj, PW.isCls, PW.wSh, PW.nFr, PW.wInO, PW.wNInO, PW.call, PW.lent, PW.lentB, PW.lentR, PW.lentOk, PW.back_nil, PW.back_v, PW.back_r, PW.back_b, PW.entry, PW.noX, PW.b2i, PW.nLc, PW.fDget, PW.fDin, PW.fDnin, PW.fDlen, PW.nDit, PW.nDic, PW.sDput, PW.putKv, PW.dKv, PW.fSortSet, PW.wMt, PW.fSIndex, PW.fSFind, PW.isStr, PW.isLst1, PW.nLc2, PW.elt1, PW.elt2, line_eq]
  refine same_bls [false, false] (by simp) fun os => ?_
  simpa [PW.sSeq, PW.sPass, PW.sBreak, PW.sCont, PW.sNever, PW.sExpr, PW.sSet, PW.sNew, PW.sPut, PW.sApp, PW.sFld, PW.sAsg, PW.sRet, PW.sRetN, PW.sRetF, PW.sRetO, PW.sIf, PW.sFor, PW.gN, PW.gT, PW.gUn, PW.wC, PW.wV, PW.rN, PW.rE, PW.peek, PW.wUn, PW.wBin, PW.wLk, PW.wLk2, PW.wLkR, PW.wLkB, PW.tB, PW.tTr, PW.truth, PW.tAnd, PW.tOr, PW.tNot, PW.tYes, PW.wAnd, PW.wOr, PW.wNot, PW.wIf, PW.wChain, PW.aNil, PW.aCons, PW.wTup, PW.nLst, PW.nCat, PW.nRep, PW.wPart, PW.fSl, PW.wSl, PW.nSl, PW.wSlL, PW.fAdd, PW.fSub, PW.fMul, PW.fFdiv, PW.fMod, PW.fPow, PW.fShl, PW.fShr, PW.fAnd, PW.fOr, PW.fXor, PW.fNeg, PW.fLt, PW.fLe, PW.fGt, PW.fGe, PW.fEq, PW.fNe, PW.fIsNone, PW.fIsntNone, PW.isNon, PW.fIn, PW.fNotIn, PW.fIx, PW.fLen, PW.fInt, PW.fAbs, PW.fMax2, PW.fMin2, PW.fTuple, PW.fList, PW.fMaxL, PW.fMinL, PW.fIs, PW.isTy, PW.fIsO, PW.fFld, PW.fCon, PW.fTab, PW.fInTab, PW.fNInTab, PW.plain, PW.plainL, PW.eqv, PW.eqvL, PW.small, PW.putO, PW.free, PW.isBo_sh, PW.isBo_un, PW.isBo_ow, PW.isBo_rd, PW.wipe, PW.unwipe, PW.isLst, PW.putF, PW.iSeq, PW.iStr, PW.iRng1, PW.iRng2, PW.iRngD, PW.iEnum, PW.iZip, PW.items, PW.bNil, PW.bV, PW.bB, PW.bR, PW.kCall, PW.kMeth, PW.kMake, PW.oV, PW.oR, PW.oB, PW.isObj, PW.isCls, PW.wSh, PW.nFr, PW.wInO, PW.wNInO, PW.call, PW.lent, PW.lentB, PW.lentR, PW.lentOk, PW.back_nil, PW.back_v, PW.back_r, PW.back_b, PW.entry, PW.noX, PW.b2i, PW.nLc, PW.fDget, PW.fDin, PW.fDnin, PW.fDlen, PW.nDit, PW.nDic, PW.sDput, PW.putKv, PW.dKv, PW.fSortSet, PW.wMt, PW.fSIndex, PW.fSFind, PW.isStr, PW.isLst1, PW.nLc2, PW.elt1, PW.elt2] using h d hd
end PW
end

section
set_option linter.all false
set_option maxHeartbeats 4000000
set_option maxRecDepth 100000
/-! G11: the law. -/
namespace PW
open GM
def φ_law : FSpec := fun ss q _ => ∃ ns, ss = [.sh (.scr ns)] ∧ ∀ os, q (.sh (.bl true)) os
theorem len_law : ∀ ss q e, φ_law ss q e → ss.length = 1 := by rintro ss q e ⟨ns, rfl, h⟩; rfl
def w_law : PW.WS :=
 (PW.sSeq (PW.sNew 1 (PW.nFr (PW.kCall φ__law_new [] (PW.bV (PW.wV 0) PW.bNil))))
 (PW.sSeq (PW.sSet 2 (PW.wSh (PW.kCall φ__law_letters [] (PW.bB 1 (PW.bV (PW.wC (.int 2)) PW.bNil)))))
 (PW.sSeq (PW.sSet 3 (PW.wLk2 PW.fIx (PW.rE (PW.nLst (PW.aCons (PW.wC (.int 0)) (PW.aCons (PW.wC (.int 1)) (PW.aCons (PW.wC (.int 1)) (PW.aCons (PW.wC (.int 2)) (PW.aCons (PW.wC (.int 2)) (PW.aCons (PW.wC (.int 2)) (PW.aCons (PW.wC (.int 2)) (PW.aCons (PW.wC (.int 3)) PW.aNil)))))))))) (PW.wSh (PW.kCall φ__law_draw [] (PW.bB 1 (PW.bV (PW.wC (.int 8)) PW.bNil))))))
 (PW.sSeq (PW.sIf (PW.tOr (PW.tNot (PW.tB (PW.wSh (PW.kCall φ__law_loops [] (PW.bB 1 (PW.bV (PW.wV 2) (PW.bV (PW.wV 3) PW.bNil))))))) (PW.tNot (PW.tB (PW.wSh (PW.kCall φ__law_numbers [] (PW.bB 1 (PW.bV (PW.wV 2) (PW.bV (PW.wV 3) PW.bNil))))))))
 (PW.sRet (PW.wC (.bl false)))
 PW.sPass)
 (PW.sSeq (PW.sSet 4 (PW.wSh (PW.kCall φ__law_alphabet [] (PW.bB 1 (PW.bV (PW.wLk PW.fLen (PW.rN 2)) PW.bNil)))))
 (PW.sSeq (PW.sNew 5 (PW.nLc [6] (PW.iRng1 (PW.wC (.int 4))) (PW.gN 6) PW.tYes (PW.wSh (PW.kCall φ__law_word [] (PW.bB 1 (PW.bV (PW.wV 2) (PW.bV (PW.wC (.int 3)) PW.bNil)))))))
 (PW.sSeq (PW.sIf (PW.tB (PW.wLkB PW.fEq (PW.rE (PW.wSh (PW.kCall φ__law_draw [] (PW.bB 1 (PW.bV (PW.wC (.int 2)) PW.bNil))))) (PW.rE (PW.wC (.int 1)))))
 (PW.sPut 5 (PW.wC (.int 1)) (PW.wBin PW.fAdd (PW.wSl (PW.rE (PW.wLk2 PW.fIx (PW.rN 5) (PW.wC (.int 0)))) none (some (PW.wC (.int 1)))) (PW.wLk2 PW.fIx (PW.rN 5) (PW.wC (.int 0)))))
 PW.sPass)
 (PW.sSeq (PW.sIf (PW.tNot (PW.tB (PW.wSh (PW.kCall φ__law_related [] (PW.bV (PW.wV 2) (PW.bV (PW.wV 4) (PW.bV (PW.wLk2 PW.fIx (PW.rN 5) (PW.wC (.int 0))) (PW.bV (PW.wLk2 PW.fIx (PW.rN 5) (PW.wC (.int 1))) (PW.bV (PW.wV 3) PW.bNil)))))))))
 (PW.sRet (PW.wC (.bl false)))
 PW.sPass)
 (PW.sSeq (PW.sIf (PW.tAnd (PW.tB (PW.wSh (PW.kCall φ_alike [] (PW.bV (PW.wV 2) (PW.bV (PW.wLk2 PW.fIx (PW.rN 5) (PW.wC (.int 0))) (PW.bV (PW.wLk2 PW.fIx (PW.rN 5) (PW.wC (.int 1))) (PW.bV (PW.wV 3) PW.bNil))))))) (PW.tB (PW.wSh (PW.kCall φ_alike [] (PW.bV (PW.wV 2) (PW.bV (PW.wLk2 PW.fIx (PW.rN 5) (PW.wC (.int 2))) (PW.bV (PW.wLk2 PW.fIx (PW.rN 5) (PW.wC (.int 3))) (PW.bV (PW.wV 3) PW.bNil))))))))
 (PW.sRet (PW.wSh (PW.kCall φ__law_same [] (PW.bV (PW.wSh (PW.kCall φ_alike [] (PW.bV (PW.wV 2) (PW.bV (PW.wBin PW.fAdd (PW.wLk2 PW.fIx (PW.rN 5) (PW.wC (.int 0))) (PW.wLk2 PW.fIx (PW.rN 5) (PW.wC (.int 2)))) (PW.bV (PW.wBin PW.fAdd (PW.wLk2 PW.fIx (PW.rN 5) (PW.wC (.int 1))) (PW.wLk2 PW.fIx (PW.rN 5) (PW.wC (.int 3)))) (PW.bV (PW.wV 3) PW.bNil)))))) (PW.bV (PW.wC (.bl true)) PW.bNil)))))
 PW.sPass)
 (PW.sRet (PW.wC (.bl true))))))))))))

theorem hs_law : Does φ_law 7 w_law := by
  rintro ss q e ⟨ns, rfl, h⟩
  unfold w_law entry
  refine seq_cut (fun ρ => ∃ d, IsSt d ∧ ρ = [.sh (.scr ns), .ow d, .un, .un, .un, .un, .un]) (fun K hK => ?_) ?_
  · simp [PW.sSeq, PW.sPass, PW.sBreak, PW.sCont, PW.sNever, PW.sExpr, PW.sSet, PW.sNew, PW.sPut, PW.sApp, PW.sFld, PW.sAsg, PW.sRet, PW.sRetN, PW.sRetF, PW.sRetO, PW.sIf, PW.sFor, PW.gN, PW.gT, PW.gUn, PW.wC, PW.wV, PW.rN, PW.rE, PW.peek, PW.wUn, PW.wBin, PW.wLk, PW.wLk2, PW.wLkR, PW.wLkB, PW.tB, PW.tTr, PW.truth, PW.tAnd, PW.tOr, PW.tNot, PW.tYes, PW.wAnd, PW.wOr, PW.wNot, PW.wIf, PW.wChain, PW.aNil, PW.aCons, PW.wTup, PW.nLst, PW.nCat, PW.nRep, PW.wPart, PW.fSl, PW.wSl, PW.nSl, PW.wSlL, PW.fAdd, PW.fSub, PW.fMul, PW.fFdiv, PW.fMod, PW.fPow, PW.fShl, PW.fShr, PW.fAnd, PW.fOr, PW.fXor, PW.fNeg, PW.fLt, PW.fLe, PW.fGt, PW.fGe, PW.fEq, PW.fNe, PW.fIsNone, PW.fIsntNone, PW.isNon, PW.fIn, PW.fNotIn, PW.fIx, PW.fLen, PW.fInt, PW.fAbs, PW.fMax2, PW.fMin2, PW.fTuple, PW.fList, PW.fMaxL, PW.fMinL, PW.fIs, PW.isTy, PW.fIsO, PW.fFld, PW.fCon, PW.fTab, PW.fInTab, PW.fNInTab, PW.plain, PW.plainL, PW.eqv, PW.eqvL, PW.small, PW.putO, PW.free, PW.isBo_sh, PW.isBo_un, PW.isBo_ow, PW.isBo_rd, PW.wipe, PW.unwipe, PW.isLst, PW.putF, PW.iSeq, PW.iStr, PW.iRng1, PW.iRng2, PW.iRngD, PW.iEnum, PW.iZip, PW.items, PW.bNil, PW.bV, PW.bB, PW.bR, PW.kCall, PW.kMeth, PW.kMake, PW.oV, PW.oR, PW.oB, PW.isObj, PW.isCls, PW.wSh, PW.nFr, PW.wInO, PW.wNInO, PW.call, PW.lent, PW.lentB, PW.lentR, PW.lentOk, PW.back_nil, PW.back_v, PW.back_r, PW.back_b, PW.entry, PW.noX, PW.b2i, PW.nLc, PW.fDget, PW.fDin, PW.fDnin, PW.fDlen, PW.nDit, PW.nDic, PW.sDput, PW.putKv, PW.dKv, PW.fSortSet, PW.wMt, PW.fSIndex, PW.fSFind, PW.isStr, PW.isLst1, PW.nLc2, PW.elt1, PW.elt2, line_eq]
    refine ⟨ns, rfl, fun d os hd => ?_⟩
    simp [PW.sSeq, PW.sPass, PW.sBreak, PW.sCont, PW.sNever, PW.sExpr, PW.sSet, PW.sNew, PW.sPut, PW.sApp, PW.sFld, PW.sAsg, PW.sRet, PW.sRetN, PW.sRetF, PW.sRetO, PW.sIf, PW.sFor, PW.gN, PW.gT, PW.gUn, PW.wC, PW.wV, PW.rN, PW.rE, PW.peek, PW.wUn, PW.wBin, PW.wLk, PW.wLk2, PW.wLkR, PW.wLkB, PW.tB, PW.tTr, PW.truth, PW.tAnd, PW.tOr, PW.tNot, PW.tYes, PW.wAnd, PW.wOr, PW.wNot, PW.wIf, PW.wChain, PW.aNil, PW.aCons, PW.wTup, PW.nLst, PW.nCat, PW.nRep, PW.wPart, PW.fSl, PW.wSl, PW.nSl, PW.wSlL, PW.fAdd, PW.fSub, PW.fMul, PW.fFdiv, PW.fMod, PW.fPow, PW.fShl, PW.fShr, PW.fAnd, PW.fOr, PW.fXor, PW.fNeg, PW.fLt, PW.fLe, PW.fGt, PW.fGe, PW.fEq, PW.fNe, PW.fIsNone, PW.fIsntNone, PW.isNon, PW.fIn, PW.fNotIn, PW.fIx, PW.fLen, PW.fInt, PW.fAbs, PW.fMax2, PW.fMin2, PW.fTuple, PW.fList, PW.fMaxL, PW.fMinL, PW.fIs, PW.isTy, PW.fIsO, PW.fFld, PW.fCon, PW.fTab, PW.fInTab, PW.fNInTab, PW.plain, PW.plainL, PW.eqv, PW.eqvL, PW.small, PW.putO, PW.free, PW.isBo_sh, PW.isBo_un, PW.isBo_ow, PW.isBo_rd, PW.wipe, PW.unwipe, PW.isLst, PW.putF, PW.iSeq, PW.iStr, PW.iRng1, PW.iRng2, PW.iRngD, PW.iEnum, PW.iZip, PW.items, PW.bNil, PW.bV, PW.bB, PW.bR, PW.kCall, PW.kMeth, PW.kMake, PW.oV, PW.oR, PW.oB, PW.isObj, PW.isCls, PW.wSh, PW.nFr, PW.wInO, PW.wNInO, PW.call, PW.lent, PW.lentB, PW.lentR, PW.lentOk, PW.back_nil, PW.back_v, PW.back_r, PW.back_b, PW.entry, PW.noX, PW.b2i, PW.nLc, PW.fDget, PW.fDin, PW.fDnin, PW.fDlen, PW.nDit, PW.nDic, PW.sDput, PW.putKv, PW.dKv, PW.fSortSet, PW.wMt, PW.fSIndex, PW.fSFind, PW.isStr, PW.isLst1, PW.nLc2, PW.elt1, PW.elt2, line_eq]
    exact hK _ ⟨d, hd, rfl⟩
  rintro ρ ⟨d, hd, rfl⟩
  refine seq_cut (fun ρ => ∃ d s, IsSt d ∧ Lets s ∧ s.length ≤ 2 ∧ (∀ c ∈ s, c ≤ 120) ∧ ρ = [.sh (.scr ns), .ow d, .sh (.str s), .un, .un, .un, .un]) (fun K hK => ?_) ?_
  · simp [PW.sSeq, PW.sPass, PW.sBreak, PW.sCont, PW.sNever, PW.sExpr, PW.sSet, PW.sNew, PW.sPut, PW.sApp, PW.sFld, PW.sAsg, PW.sRet, PW.sRetN, PW.sRetF, PW.sRetO, PW.sIf, PW.sFor, PW.gN, PW.gT, PW.gUn, PW.wC, PW.wV, PW.rN, PW.rE, PW.peek, PW.wUn, PW.wBin, PW.wLk, PW.wLk2, PW.wLkR, PW.wLkB, PW.tB, PW.tTr, PW.truth, PW.tAnd, PW.tOr, PW.tNot, PW.tYes, PW.wAnd, PW.wOr, PW.wNot, PW.wIf, PW.wChain, PW.aNil, PW.aCons, PW.wTup, PW.nLst, PW.nCat, PW.nRep, PW.wPart, PW.fSl, PW.wSl, PW.nSl, PW.wSlL, PW.fAdd, PW.fSub, PW.fMul, PW.fFdiv, PW.fMod, PW.fPow, PW.fShl, PW.fShr, PW.fAnd, PW.fOr, PW.fXor, PW.fNeg, PW.fLt, PW.fLe, PW.fGt, PW.fGe, PW.fEq, PW.fNe, PW.fIsNone, PW.fIsntNone, PW.isNon, PW.fIn, PW.fNotIn, PW.fIx, PW.fLen, PW.fInt, PW.fAbs, PW.fMax2, PW.fMin2, PW.fTuple, PW.fList, PW.fMaxL, PW.fMinL, PW.fIs, PW.isTy, PW.fIsO, PW.fFld, PW.fCon, PW.fTab, PW.fInTab, PW.fNInTab, PW.plain, PW.plainL, PW.eqv, PW.eqvL, PW.small, PW.putO, PW.free, PW.isBo_sh, PW.isBo_un, PW.isBo_ow, PW.isBo_rd, PW.wipe, PW.unwipe, PW.isLst, PW.putF, PW.iSeq, PW.iStr, PW.iRng1, PW.iRng2, PW.iRngD, PW.iEnum, PW.iZip, PW.items, PW.bNil, PW.bV, PW.bB, PW.bR, PW.kCall, PW.kMeth, PW.kMake, PW.oV, PW.oR, PW.oB, PW.isObj, PW.isCls, PW.wSh, PW.nFr, PW.wInO, PW.wNInO, PW.call, PW.lent, PW.lentB, PW.lentR, PW.lentOk, PW.back_nil, PW.back_v, PW.back_r, PW.back_b, PW.entry, PW.noX, PW.b2i, PW.nLc, PW.fDget, PW.fDin, PW.fDnin, PW.fDlen, PW.nDit, PW.nDic, PW.sDput, PW.putKv, PW.dKv, PW.fSortSet, PW.wMt, PW.fSIndex, PW.fSFind, PW.isStr, PW.isLst1, PW.nLc2, PW.elt1, PW.elt2, line_eq]
    refine ⟨d, 2, hd, by omega, by omega, rfl, fun d2 s hd2 hs hs2 hs3 => ?_⟩
    simp [PW.sSeq, PW.sPass, PW.sBreak, PW.sCont, PW.sNever, PW.sExpr, PW.sSet, PW.sNew, PW.sPut, PW.sApp, PW.sFld, PW.sAsg, PW.sRet, PW.sRetN, PW.sRetF, PW.sRetO, PW.sIf, PW.sFor, PW.gN, PW.gT, PW.gUn, PW.wC, PW.wV, PW.rN, PW.rE, PW.peek, PW.wUn, PW.wBin, PW.wLk, PW.wLk2, PW.wLkR, PW.wLkB, PW.tB, PW.tTr, PW.truth, PW.tAnd, PW.tOr, PW.tNot, PW.tYes, PW.wAnd, PW.wOr, PW.wNot, PW.wIf, PW.wChain, PW.aNil, PW.aCons, PW.wTup, PW.nLst, PW.nCat, PW.nRep, PW.wPart, PW.fSl, PW.wSl, PW.nSl, PW.wSlL, PW.fAdd, PW.fSub, PW.fMul, PW.fFdiv, PW.fMod, PW.fPow, PW.fShl, PW.fShr, PW.fAnd, PW.fOr, PW.fXor, PW.fNeg, PW.fLt, PW.fLe, PW.fGt, PW.fGe, PW.fEq, PW.fNe, PW.fIsNone, PW.fIsntNone, PW.isNon, PW.fIn, PW.fNotIn, PW.fIx, PW.fLen, PW.fInt, PW.fAbs, PW.fMax2, PW.fMin2, PW.fTuple, PW.fList, PW.fMaxL, PW.fMinL, PW.fIs, PW.isTy, PW.fIsO, PW.fFld, PW.fCon, PW.fTab, PW.fInTab, PW.fNInTab, PW.plain, PW.plainL, PW.eqv, PW.eqvL, PW.small, PW.putO, PW.free, PW.isBo_sh, PW.isBo_un, PW.isBo_ow, PW.isBo_rd, PW.wipe, PW.unwipe, PW.isLst, PW.putF, PW.iSeq, PW.iStr, PW.iRng1, PW.iRng2, PW.iRngD, PW.iEnum, PW.iZip, PW.items, PW.bNil, PW.bV, PW.bB, PW.bR, PW.kCall, PW.kMeth, PW.kMake, PW.oV, PW.oR, PW.oB, PW.isObj, PW.isCls, PW.wSh, PW.nFr, PW.wInO, PW.wNInO, PW.call, PW.lent, PW.lentB, PW.lentR, PW.lentOk, PW.back_nil, PW.back_v, PW.back_r, PW.back_b, PW.entry, PW.noX, PW.b2i, PW.nLc, PW.fDget, PW.fDin, PW.fDnin, PW.fDlen, PW.nDit, PW.nDic, PW.sDput, PW.putKv, PW.dKv, PW.fSortSet, PW.wMt, PW.fSIndex, PW.fSFind, PW.isStr, PW.isLst1, PW.nLc2, PW.elt1, PW.elt2, line_eq]
    exact hK _ ⟨d2, s, hd2, hs, by omega, hs3, rfl⟩
  rintro ρ ⟨d, s, hd, hs, hs2, hs3, rfl⟩
  have hl : s.length ≤ 16777216 := by omega
  refine seq_cut (fun ρ => ∃ d r, IsSt d ∧ r ≤ 3 ∧ ρ = [.sh (.scr ns), .ow d, .sh (.str s), .sh (natD r), .un, .un, .un]) (fun K hK => ?_) ?_
  · simp [PW.sSeq, PW.sPass, PW.sBreak, PW.sCont, PW.sNever, PW.sExpr, PW.sSet, PW.sNew, PW.sPut, PW.sApp, PW.sFld, PW.sAsg, PW.sRet, PW.sRetN, PW.sRetF, PW.sRetO, PW.sIf, PW.sFor, PW.gN, PW.gT, PW.gUn, PW.wC, PW.wV, PW.rN, PW.rE, PW.peek, PW.wUn, PW.wBin, PW.wLk, PW.wLk2, PW.wLkR, PW.wLkB, PW.tB, PW.tTr, PW.truth, PW.tAnd, PW.tOr, PW.tNot, PW.tYes, PW.wAnd, PW.wOr, PW.wNot, PW.wIf, PW.wChain, PW.aNil, PW.aCons, PW.wTup, PW.nLst, PW.nCat, PW.nRep, PW.wPart, PW.fSl, PW.wSl, PW.nSl, PW.wSlL, PW.fAdd, PW.fSub, PW.fMul, PW.fFdiv, PW.fMod, PW.fPow, PW.fShl, PW.fShr, PW.fAnd, PW.fOr, PW.fXor, PW.fNeg, PW.fLt, PW.fLe, PW.fGt, PW.fGe, PW.fEq, PW.fNe, PW.fIsNone, PW.fIsntNone, PW.isNon, PW.fIn, PW.fNotIn, PW.fIx, PW.fLen, PW.fInt, PW.fAbs, PW.fMax2, PW.fMin2, PW.fTuple, PW.fList, PW.fMaxL, PW.fMinL, PW.fIs, PW.isTy, PW.fIsO, PW.fFld, PW.fCon, PW.fTab, PW.fInTab, PW.fNInTab, PW.plain, PW.plainL, PW.eqv, PW.eqvL, PW.small, PW.putO, PW.free, PW.isBo_sh, PW.isBo_un, PW.isBo_ow, PW.isBo_rd, PW.wipe, PW.unwipe, PW.isLst, PW.putF, PW.iSeq, PW.iStr, PW.iRng1, PW.iRng2, PW.iRngD, PW.iEnum, PW.iZip, PW.items, PW.bNil, PW.bV, PW.bB, PW.bR, PW.kCall, PW.kMeth, PW.kMake, PW.oV, PW.oR, PW.oB, PW.isObj, PW.isCls, PW.wSh, PW.nFr, PW.wInO, PW.wNInO, PW.call, PW.lent, PW.lentB, PW.lentR, PW.lentOk, PW.back_nil, PW.back_v, PW.back_r, PW.back_b, PW.entry, PW.noX, PW.b2i, PW.nLc, PW.fDget, PW.fDin, PW.fDnin, PW.fDlen, PW.nDit, PW.nDic, PW.sDput, PW.putKv, PW.dKv, PW.fSortSet, PW.wMt, PW.fSIndex, PW.fSFind, PW.isStr, PW.isLst1, PW.nLc2, PW.elt1, PW.elt2, line_eq]
    refine ⟨d, 8, hd, by omega, by omega, rfl, fun d2 x hd2 x0 x1 => ?_⟩
    have key : ∃ r : Nat, r ≤ 3 ∧ atI [D.int 0, .int 1, .int 1, .int 2, .int 2, .int 2, .int 2, .int 3] x = some (natD r) := by
      rw [atI_of x0]
      have : x.toNat < 8 := by omega
      generalize x.toNat = j at this
      match j, this with
      | 0, _ => exact ⟨0, by omega, rfl⟩
      | 1, _ => exact ⟨1, by omega, rfl⟩
      | 2, _ => exact ⟨1, by omega, rfl⟩
      | 3, _ => exact ⟨2, by omega, rfl⟩
      | 4, _ => exact ⟨2, by omega, rfl⟩
      | 5, _ => exact ⟨2, by omega, rfl⟩
      | 6, _ => exact ⟨2, by omega, rfl⟩
      | 7, _ => exact ⟨3, by omega, rfl⟩
    obtain ⟨r, hr, e⟩ := key
    simp [PW.sSeq, PW.sPass, PW.sBreak, PW.sCont, PW.sNever, PW.sExpr, PW.sSet, PW.sNew, PW.sPut, PW.sApp, PW.sFld, PW.sAsg, PW.sRet, PW.sRetN, PW.sRetF, PW.sRetO, PW.sIf, PW.sFor, PW.gN, PW.gT, PW.gUn, PW.wC, PW.wV, PW.rN, PW.rE, PW.peek, PW.wUn, PW.wBin, PW.wLk, PW.wLk2, PW.wLkR, PW.wLkB, PW.tB, PW.tTr, PW.truth, PW.tAnd, PW.tOr, PW.tNot, PW.tYes, PW.wAnd, PW.wOr, PW.wNot, PW.wIf, PW.wChain, PW.aNil, PW.aCons, PW.wTup, PW.nLst, PW.nCat, PW.nRep, PW.wPart, PW.fSl, PW.wSl, PW.nSl, PW.wSlL, PW.fAdd, PW.fSub, PW.fMul, PW.fFdiv, PW.fMod, PW.fPow, PW.fShl, PW.fShr, PW.fAnd, PW.fOr, PW.fXor, PW.fNeg, PW.fLt, PW.fLe, PW.fGt, PW.fGe, PW.fEq, PW.fNe, PW.fIsNone, PW.fIsntNone, PW.isNon, PW.fIn, PW.fNotIn, PW.fIx, PW.fLen, PW.fInt, PW.fAbs, PW.fMax2, PW.fMin2, PW.fTuple, PW.fList, PW.fMaxL, PW.fMinL, PW.fIs, PW.isTy, PW.fIsO, PW.fFld, PW.fCon, PW.fTab, PW.fInTab, PW.fNInTab, PW.plain, PW.plainL, PW.eqv, PW.eqvL, PW.small, PW.putO, PW.free, PW.isBo_sh, PW.isBo_un, PW.isBo_ow, PW.isBo_rd, PW.wipe, PW.unwipe, PW.isLst, PW.putF, PW.iSeq, PW.iStr, PW.iRng1, PW.iRng2, PW.iRngD, PW.iEnum, PW.iZip, PW.items, PW.bNil, PW.bV, PW.bB, PW.bR, PW.kCall, PW.kMeth, PW.kMake, PW.oV, PW.oR, PW.oB, PW.isObj, PW.isCls, PW.wSh, PW.nFr, PW.wInO, PW.wNInO, PW.call, PW.lent, PW.lentB, PW.lentR, PW.lentOk, PW.back_nil, PW.back_v, PW.back_r, PW.back_b, PW.entry, PW.noX, PW.b2i, PW.nLc, PW.fDget, PW.fDin, PW.fDnin, PW.fDlen, PW.nDit, PW.nDic, PW.sDput, PW.putKv, PW.dKv, PW.fSortSet, PW.wMt, PW.fSIndex, PW.fSFind, PW.isStr, PW.isLst1, PW.nLc2, PW.elt1, PW.elt2, line_eq, e]
    exact hK _ ⟨d2, r, hd2, hr, rfl⟩
  rintro ρ ⟨d, r, hd, hr, rfl⟩
  refine seq_cut (fun ρ => ∃ d, IsSt d ∧ ρ = [.sh (.scr ns), .ow d, .sh (.str s), .sh (natD r), .un, .un, .un]) (fun K hK => ?_) ?_
  · simp [PW.sSeq, PW.sPass, PW.sBreak, PW.sCont, PW.sNever, PW.sExpr, PW.sSet, PW.sNew, PW.sPut, PW.sApp, PW.sFld, PW.sAsg, PW.sRet, PW.sRetN, PW.sRetF, PW.sRetO, PW.sIf, PW.sFor, PW.gN, PW.gT, PW.gUn, PW.wC, PW.wV, PW.rN, PW.rE, PW.peek, PW.wUn, PW.wBin, PW.wLk, PW.wLk2, PW.wLkR, PW.wLkB, PW.tB, PW.tTr, PW.truth, PW.tAnd, PW.tOr, PW.tNot, PW.tYes, PW.wAnd, PW.wOr, PW.wNot, PW.wIf, PW.wChain, PW.aNil, PW.aCons, PW.wTup, PW.nLst, PW.nCat, PW.nRep, PW.wPart, PW.fSl, PW.wSl, PW.nSl, PW.wSlL, PW.fAdd, PW.fSub, PW.fMul, PW.fFdiv, PW.fMod, PW.fPow, PW.fShl, PW.fShr, PW.fAnd, PW.fOr, PW.fXor, PW.fNeg, PW.fLt, PW.fLe, PW.fGt, PW.fGe, PW.fEq, PW.fNe, PW.fIsNone, PW.fIsntNone, PW.isNon, PW.fIn, PW.fNotIn, PW.fIx, PW.fLen, PW.fInt, PW.fAbs, PW.fMax2, PW.fMin2, PW.fTuple, PW.fList, PW.fMaxL, PW.fMinL, PW.fIs, PW.isTy, PW.fIsO, PW.fFld, PW.fCon, PW.fTab, PW.fInTab, PW.fNInTab, PW.plain, PW.plainL, PW.eqv, PW.eqvL, PW.small, PW.putO, PW.free, PW.isBo_sh, PW.isBo_un, PW.isBo_ow, PW.isBo_rd, PW.wipe, PW.unwipe, PW.isLst, PW.putF, PW.iSeq, PW.iStr, PW.iRng1, PW.iRng2, PW.iRngD, PW.iEnum, PW.iZip, PW.items, PW.bNil, PW.bV, PW.bB, PW.bR, PW.kCall, PW.kMeth, PW.kMake, PW.oV, PW.oR, PW.oB, PW.isObj, PW.isCls, PW.wSh, PW.nFr, PW.wInO, PW.wNInO, PW.call, PW.lent, PW.lentB, PW.lentR, PW.lentOk, PW.back_nil, PW.back_v, PW.back_r, PW.back_b, PW.entry, PW.noX, PW.b2i, PW.nLc, PW.fDget, PW.fDin, PW.fDnin, PW.fDlen, PW.nDit, PW.nDic, PW.sDput, PW.putKv, PW.dKv, PW.fSortSet, PW.wMt, PW.fSIndex, PW.fSFind, PW.isStr, PW.isLst1, PW.nLc2, PW.elt1, PW.elt2, line_eq]
    refine ⟨d, s, r, hd, hs, hr, rfl, fun d2 hd2 => ?_⟩
    simp [PW.sSeq, PW.sPass, PW.sBreak, PW.sCont, PW.sNever, PW.sExpr, PW.sSet, PW.sNew, PW.sPut, PW.sApp, PW.sFld, PW.sAsg, PW.sRet, PW.sRetN, PW.sRetF, PW.sRetO, PW.sIf, PW.sFor, PW.gN, PW.gT, PW.gUn, PW.wC, PW.wV, PW.rN, PW.rE, PW.peek, PW.wUn, PW.wBin, PW.wLk, PW.wLk2, PW.wLkR, PW.wLkB, PW.tB, PW.tTr, PW.truth, PW.tAnd, PW.tOr, PW.tNot, PW.tYes, PW.wAnd, PW.wOr, PW.wNot, PW.wIf, PW.wChain, PW.aNil, PW.aCons, PW.wTup, PW.nLst, PW.nCat, PW.nRep, PW.wPart, PW.fSl, PW.wSl, PW.nSl, PW.wSlL, PW.fAdd, PW.fSub, PW.fMul, PW.fFdiv, PW.fMod, PW.fPow, PW.fShl, PW.fShr, PW.fAnd, PW.fOr, PW.fXor, PW.fNeg, PW.fLt, PW.fLe, PW.fGt, PW.fGe, PW.fEq, PW.fNe, PW.fIsNone, PW.fIsntNone, PW.isNon, PW.fIn, PW.fNotIn, PW.fIx, PW.fLen, PW.fInt, PW.fAbs, PW.fMax2, PW.fMin2, PW.fTuple, PW.fList, PW.fMaxL, PW.fMinL, PW.fIs, PW.isTy, PW.fIsO, PW.fFld, PW.fCon, PW.fTab, PW.fInTab, PW.fNInTab, PW.plain, PW.plainL, PW.eqv, PW.eqvL, PW.small, PW.putO, PW.free, PW.isBo_sh, PW.isBo_un, PW.isBo_ow, PW.isBo_rd, PW.wipe, PW.unwipe, PW.isLst, PW.putF, PW.iSeq, PW.iStr, PW.iRng1, PW.iRng2, PW.iRngD, PW.iEnum, PW.iZip, PW.items, PW.bNil, PW.bV, PW.bB, PW.bR, PW.kCall, PW.kMeth, PW.kMake, PW.oV, PW.oR, PW.oB, PW.isObj, PW.isCls, PW.wSh, PW.nFr, PW.wInO, PW.wNInO, PW.call, PW.lent, PW.lentB, PW.lentR, PW.lentOk, PW.back_nil, PW.back_v, PW.back_r, PW.back_b, PW.entry, PW.noX, PW.b2i, PW.nLc, PW.fDget, PW.fDin, PW.fDnin, PW.fDlen, PW.nDit, PW.nDic, PW.sDput, PW.putKv, PW.dKv, PW.fSortSet, PW.wMt, PW.fSIndex, PW.fSFind, PW.isStr, PW.isLst1, PW.nLc2, PW.elt1, PW.elt2, line_eq]
    refine ⟨d2, s, r, hd2, hs, hr, rfl, fun d3 hd3 => ?_⟩
    simp [PW.sSeq, PW.sPass, PW.sBreak, PW.sCont, PW.sNever, PW.sExpr, PW.sSet, PW.sNew, PW.sPut, PW.sApp, PW.sFld, PW.sAsg, PW.sRet, PW.sRetN, PW.sRetF, PW.sRetO, PW.sIf, PW.sFor, PW.gN, PW.gT, PW.gUn, PW.wC, PW.wV, PW.rN, PW.rE, PW.peek, PW.wUn, PW.wBin, PW.wLk, PW.wLk2, PW.wLkR, PW.wLkB, PW.tB, PW.tTr, PW.truth, PW.tAnd, PW.tOr, PW.tNot, PW.tYes, PW.wAnd, PW.wOr, PW.wNot, PW.wIf, PW.wChain, PW.aNil, PW.aCons, PW.wTup, PW.nLst, PW.nCat, PW.nRep, PW.wPart, PW.fSl, PW.wSl, PW.nSl, PW.wSlL, PW.fAdd, PW.fSub, PW.fMul, PW.fFdiv, PW.fMod, PW.fPow, PW.fShl, PW.fShr, PW.fAnd, PW.fOr, PW.fXor, PW.fNeg, PW.fLt, PW.fLe, PW.fGt, PW.fGe, PW.fEq, PW.fNe, PW.fIsNone, PW.fIsntNone, PW.isNon, PW.fIn, PW.fNotIn, PW.fIx, PW.fLen, PW.fInt, PW.fAbs, PW.fMax2, PW.fMin2, PW.fTuple, PW.fList, PW.fMaxL, PW.fMinL, PW.fIs, PW.isTy, PW.fIsO, PW.fFld, PW.fCon, PW.fTab, PW.fInTab, PW.fNInTab, PW.plain, PW.plainL, PW.eqv, PW.eqvL, PW.small, PW.putO, PW.free, PW.isBo_sh, PW.isBo_un, PW.isBo_ow, PW.isBo_rd, PW.wipe, PW.unwipe, PW.isLst, PW.putF, PW.iSeq, PW.iStr, PW.iRng1, PW.iRng2, PW.iRngD, PW.iEnum, PW.iZip, PW.items, PW.bNil, PW.bV, PW.bB, PW.bR, PW.kCall, PW.kMeth, PW.kMake, PW.oV, PW.oR, PW.oB, PW.isObj, PW.isCls, PW.wSh, PW.nFr, PW.wInO, PW.wNInO, PW.call, PW.lent, PW.lentB, PW.lentR, PW.lentOk, PW.back_nil, PW.back_v, PW.back_r, PW.back_b, PW.entry, PW.noX, PW.b2i, PW.nLc, PW.fDget, PW.fDin, PW.fDnin, PW.fDlen, PW.nDit, PW.nDic, PW.sDput, PW.putKv, PW.dKv, PW.fSortSet, PW.wMt, PW.fSIndex, PW.fSFind, PW.isStr, PW.isLst1, PW.nLc2, PW.elt1, PW.elt2, line_eq]
    exact hK _ ⟨d3, hd3, rfl⟩
  rintro ρ ⟨d, hd, rfl⟩
  refine seq_cut (fun ρ => ∃ d t, IsSt d ∧ Lets t ∧ t.length = s.length ∧ ρ = [.sh (.scr ns), .ow d, .sh (.str s), .sh (natD r), .sh (.str t), .un, .un]) (fun K hK => ?_) ?_
  · simp [PW.sSeq, PW.sPass, PW.sBreak, PW.sCont, PW.sNever, PW.sExpr, PW.sSet, PW.sNew, PW.sPut, PW.sApp, PW.sFld, PW.sAsg, PW.sRet, PW.sRetN, PW.sRetF, PW.sRetO, PW.sIf, PW.sFor, PW.gN, PW.gT, PW.gUn, PW.wC, PW.wV, PW.rN, PW.rE, PW.peek, PW.wUn, PW.wBin, PW.wLk, PW.wLk2, PW.wLkR, PW.wLkB, PW.tB, PW.tTr, PW.truth, PW.tAnd, PW.tOr, PW.tNot, PW.tYes, PW.wAnd, PW.wOr, PW.wNot, PW.wIf, PW.wChain, PW.aNil, PW.aCons, PW.wTup, PW.nLst, PW.nCat, PW.nRep, PW.wPart, PW.fSl, PW.wSl, PW.nSl, PW.wSlL, PW.fAdd, PW.fSub, PW.fMul, PW.fFdiv, PW.fMod, PW.fPow, PW.fShl, PW.fShr, PW.fAnd, PW.fOr, PW.fXor, PW.fNeg, PW.fLt, PW.fLe, PW.fGt, PW.fGe, PW.fEq, PW.fNe, PW.fIsNone, PW.fIsntNone, PW.isNon, PW.fIn, PW.fNotIn, PW.fIx, PW.fLen, PW.fInt, PW.fAbs, PW.fMax2, PW.fMin2, PW.fTuple, PW.fList, PW.fMaxL, PW.fMinL, PW.fIs, PW.isTy, PW.fIsO, PW.fFld, PW.fCon, PW.fTab, PW.fInTab, PW.fNInTab, PW.plain, PW.plainL, PW.eqv, PW.eqvL, PW.small, PW.putO, PW.free, PW.isBo_sh, PW.isBo_un, PW.isBo_ow, PW.isBo_rd, PW.wipe, PW.unwipe, PW.isLst, PW.putF, PW.iSeq, PW.iStr, PW.iRng1, PW.iRng2, PW.iRngD, PW.iEnum, PW.iZip, PW.items, PW.bNil, PW.bV, PW.bB, PW.bR, PW.kCall, PW.kMeth, PW.kMake, PW.oV, PW.oR, PW.oB, PW.isObj, PW.isCls, PW.wSh, PW.nFr, PW.wInO, PW.wNInO, PW.call, PW.lent, PW.lentB, PW.lentR, PW.lentOk, PW.back_nil, PW.back_v, PW.back_r, PW.back_b, PW.entry, PW.noX, PW.b2i, PW.nLc, PW.fDget, PW.fDin, PW.fDnin, PW.fDlen, PW.nDit, PW.nDic, PW.sDput, PW.putKv, PW.dKv, PW.fSortSet, PW.wMt, PW.fSIndex, PW.fSFind, PW.isStr, PW.isLst1, PW.nLc2, PW.elt1, PW.elt2, line_eq, hl]
    refine ⟨d, s.length, hd, hs.ne, hs.le, rfl, fun d2 t hd2 ht hts => ?_⟩
    simp [PW.sSeq, PW.sPass, PW.sBreak, PW.sCont, PW.sNever, PW.sExpr, PW.sSet, PW.sNew, PW.sPut, PW.sApp, PW.sFld, PW.sAsg, PW.sRet, PW.sRetN, PW.sRetF, PW.sRetO, PW.sIf, PW.sFor, PW.gN, PW.gT, PW.gUn, PW.wC, PW.wV, PW.rN, PW.rE, PW.peek, PW.wUn, PW.wBin, PW.wLk, PW.wLk2, PW.wLkR, PW.wLkB, PW.tB, PW.tTr, PW.truth, PW.tAnd, PW.tOr, PW.tNot, PW.tYes, PW.wAnd, PW.wOr, PW.wNot, PW.wIf, PW.wChain, PW.aNil, PW.aCons, PW.wTup, PW.nLst, PW.nCat, PW.nRep, PW.wPart, PW.fSl, PW.wSl, PW.nSl, PW.wSlL, PW.fAdd, PW.fSub, PW.fMul, PW.fFdiv, PW.fMod, PW.fPow, PW.fShl, PW.fShr, PW.fAnd, PW.fOr, PW.fXor, PW.fNeg, PW.fLt, PW.fLe, PW.fGt, PW.fGe, PW.fEq, PW.fNe, PW.fIsNone, PW.fIsntNone, PW.isNon, PW.fIn, PW.fNotIn, PW.fIx, PW.fLen, PW.fInt, PW.fAbs, PW.fMax2, PW.fMin2, PW.fTuple, PW.fList, PW.fMaxL, PW.fMinL, PW.fIs, PW.isTy, PW.fIsO, PW.fFld, PW.fCon, PW.fTab, PW.fInTab, PW.fNInTab, PW.plain, PW.plainL, PW.eqv, PW.eqvL, PW.small, PW.putO, PW.free, PW.isBo_sh, PW.isBo_un, PW.isBo_ow, PW.isBo_rd, PW.wipe, PW.unwipe, PW.isLst, PW.putF, PW.iSeq, PW.iStr, PW.iRng1, PW.iRng2, PW.iRngD, PW.iEnum, PW.iZip, PW.items, PW.bNil, PW.bV, PW.bB, PW.bR, PW.kCall, PW.kMeth, PW.kMake, PW.oV, PW.oR, PW.oB, PW.isObj, PW.isCls, PW.wSh, PW.nFr, PW.wInO, PW.wNInO, PW.call, PW.lent, PW.lentB, PW.lentR, PW.lentOk, PW.back_nil, PW.back_v, PW.back_r, PW.back_b, PW.entry, PW.noX, PW.b2i, PW.nLc, PW.fDget, PW.fDin, PW.fDnin, PW.fDlen, PW.nDit, PW.nDic, PW.sDput, PW.putKv, PW.dKv, PW.fSortSet, PW.wMt, PW.fSIndex, PW.fSFind, PW.isStr, PW.isLst1, PW.nLc2, PW.elt1, PW.elt2, line_eq]
    exact hK _ ⟨d2, t, hd2, ht, hts, rfl⟩
  rintro ρ ⟨d, t, hd, ht, hts, rfl⟩
  refine seq_cut (fun ρ => ∃ d w0 w1 w2 w3, IsSt d ∧ (Over s w0 ∧ w0.length ≤ 3) ∧ (Over s w1 ∧ w1.length ≤ 3) ∧ (Over s w2 ∧ w2.length ≤ 3) ∧ (Over s w3 ∧ w3.length ≤ 3) ∧ ρ = [.sh (.scr ns), .ow d, .sh (.str s), .sh (natD r), .sh (.str t), .ow (.lst [.str w0, .str w1, .str w2, .str w3]), .un]) (fun K hK => ?_) ?_
  · simp [PW.sSeq, PW.sPass, PW.sBreak, PW.sCont, PW.sNever, PW.sExpr, PW.sSet, PW.sNew, PW.sPut, PW.sApp, PW.sFld, PW.sAsg, PW.sRet, PW.sRetN, PW.sRetF, PW.sRetO, PW.sIf, PW.sFor, PW.gN, PW.gT, PW.gUn, PW.wC, PW.wV, PW.rN, PW.rE, PW.peek, PW.wUn, PW.wBin, PW.wLk, PW.wLk2, PW.wLkR, PW.wLkB, PW.tB, PW.tTr, PW.truth, PW.tAnd, PW.tOr, PW.tNot, PW.tYes, PW.wAnd, PW.wOr, PW.wNot, PW.wIf, PW.wChain, PW.aNil, PW.aCons, PW.wTup, PW.nLst, PW.nCat, PW.nRep, PW.wPart, PW.fSl, PW.wSl, PW.nSl, PW.wSlL, PW.fAdd, PW.fSub, PW.fMul, PW.fFdiv, PW.fMod, PW.fPow, PW.fShl, PW.fShr, PW.fAnd, PW.fOr, PW.fXor, PW.fNeg, PW.fLt, PW.fLe, PW.fGt, PW.fGe, PW.fEq, PW.fNe, PW.fIsNone, PW.fIsntNone, PW.isNon, PW.fIn, PW.fNotIn, PW.fIx, PW.fLen, PW.fInt, PW.fAbs, PW.fMax2, PW.fMin2, PW.fTuple, PW.fList, PW.fMaxL, PW.fMinL, PW.fIs, PW.isTy, PW.fIsO, PW.fFld, PW.fCon, PW.fTab, PW.fInTab, PW.fNInTab, PW.plain, PW.plainL, PW.eqv, PW.eqvL, PW.small, PW.putO, PW.free, PW.isBo_sh, PW.isBo_un, PW.isBo_ow, PW.isBo_rd, PW.wipe, PW.unwipe, PW.isLst, PW.putF, PW.iSeq, PW.iStr, PW.iRng1, PW.iRng2, PW.iRngD, PW.iEnum, PW.iZip, PW.items, PW.bNil, PW.bV, PW.bB, PW.bR, PW.kCall, PW.kMeth, PW.kMake, PW.oV, PW.oR, PW.oB, PW.isObj, PW.isCls, PW.wSh, PW.nFr, PW.wInO, PW.wNInO, PW.call, PW.lent, PW.lentB, PW.lentR, PW.lentOk, PW.back_nil, PW.back_v, PW.back_r, PW.back_b, PW.entry, PW.noX, PW.b2i, PW.nLc, PW.fDget, PW.fDin, PW.fDnin, PW.fDlen, PW.nDit, PW.nDic, PW.sDput, PW.putKv, PW.dKv, PW.fSortSet, PW.wMt, PW.fSIndex, PW.fSFind, PW.isStr, PW.isLst1, PW.nLc2, PW.elt1, PW.elt2, line_eq]
    refine ⟨by unfold rngB; omega, ?_⟩
    refine lc_ix _ (fun i acc ρ => ∃ d ws, IsSt d ∧ acc = ws.map D.str ∧ ws.length = i ∧ (∀ w ∈ ws, Over s w ∧ w.length ≤ 3) ∧ ρ = [.sh (.scr ns), .ow d, .sh (.str s), .sh (natD r), .sh (.str t), .un, .un]) ⟨d, [], hd, rfl, rfl, by simp, rfl⟩ ?_ ?_
    · rintro i x acc ρ K2 hx ⟨d, ws, hd, rfl, hi, hws, rfl⟩ hK2
      have hi4 := (rng_some hx).1
      simp [PW.sSeq, PW.sPass, PW.sBreak, PW.sCont, PW.sNever, PW.sExpr, PW.sSet, PW.sNew, PW.sPut, PW.sApp, PW.sFld, PW.sAsg, PW.sRet, PW.sRetN, PW.sRetF, PW.sRetO, PW.sIf, PW.sFor, PW.gN, PW.gT, PW.gUn, PW.wC, PW.wV, PW.rN, PW.rE, PW.peek, PW.wUn, PW.wBin, PW.wLk, PW.wLk2, PW.wLkR, PW.wLkB, PW.tB, PW.tTr, PW.truth, PW.tAnd, PW.tOr, PW.tNot, PW.tYes, PW.wAnd, PW.wOr, PW.wNot, PW.wIf, PW.wChain, PW.aNil, PW.aCons, PW.wTup, PW.nLst, PW.nCat, PW.nRep, PW.wPart, PW.fSl, PW.wSl, PW.nSl, PW.wSlL, PW.fAdd, PW.fSub, PW.fMul, PW.fFdiv, PW.fMod, PW.fPow, PW.fShl, PW.fShr, PW.fAnd, PW.fOr, PW.fXor, PW.fNeg, PW.fLt, PW.fLe, PW.fGt, PW.fGe, PW.fEq, PW.fNe, PW.fIsNone, PW.fIsntNone, PW.isNon, PW.fIn, PW.fNotIn, PW.fIx, PW.fLen, PW.fInt, PW.fAbs, PW.fMax2, PW.fMin2, PW.fTuple, PW.fList, PW.fMaxL, PW.fMinL, PW.fIs, PW.isTy, PW.fIsO, PW.fFld, PW.fCon, PW.fTab, PW.fInTab, PW.fNInTab, PW.plain, PW.plainL, PW.eqv, PW.eqvL, PW.small, PW.putO, PW.free, PW.isBo_sh, PW.isBo_un, PW.isBo_ow, PW.isBo_rd, PW.wipe, PW.unwipe, PW.isLst, PW.putF, PW.iSeq, PW.iStr, PW.iRng1, PW.iRng2, PW.iRngD, PW.iEnum, PW.iZip, PW.items, PW.bNil, PW.bV, PW.bB, PW.bR, PW.kCall, PW.kMeth, PW.kMake, PW.oV, PW.oR, PW.oB, PW.isObj, PW.isCls, PW.wSh, PW.nFr, PW.wInO, PW.wNInO, PW.call, PW.lent, PW.lentB, PW.lentR, PW.lentOk, PW.back_nil, PW.back_v, PW.back_r, PW.back_b, PW.entry, PW.noX, PW.b2i, PW.nLc, PW.fDget, PW.fDin, PW.fDnin, PW.fDlen, PW.nDit, PW.nDic, PW.sDput, PW.putKv, PW.dKv, PW.fSortSet, PW.wMt, PW.fSIndex, PW.fSFind, PW.isStr, PW.isLst1, PW.nLc2, PW.elt1, PW.elt2, line_eq]
      refine ⟨d, s, 3, hd, hs, by omega, by omega, rfl, fun d2 w hd2 hw lw => ?_⟩
      simp [PW.sSeq, PW.sPass, PW.sBreak, PW.sCont, PW.sNever, PW.sExpr, PW.sSet, PW.sNew, PW.sPut, PW.sApp, PW.sFld, PW.sAsg, PW.sRet, PW.sRetN, PW.sRetF, PW.sRetO, PW.sIf, PW.sFor, PW.gN, PW.gT, PW.gUn, PW.wC, PW.wV, PW.rN, PW.rE, PW.peek, PW.wUn, PW.wBin, PW.wLk, PW.wLk2, PW.wLkR, PW.wLkB, PW.tB, PW.tTr, PW.truth, PW.tAnd, PW.tOr, PW.tNot, PW.tYes, PW.wAnd, PW.wOr, PW.wNot, PW.wIf, PW.wChain, PW.aNil, PW.aCons, PW.wTup, PW.nLst, PW.nCat, PW.nRep, PW.wPart, PW.fSl, PW.wSl, PW.nSl, PW.wSlL, PW.fAdd, PW.fSub, PW.fMul, PW.fFdiv, PW.fMod, PW.fPow, PW.fShl, PW.fShr, PW.fAnd, PW.fOr, PW.fXor, PW.fNeg, PW.fLt, PW.fLe, PW.fGt, PW.fGe, PW.fEq, PW.fNe, PW.fIsNone, PW.fIsntNone, PW.isNon, PW.fIn, PW.fNotIn, PW.fIx, PW.fLen, PW.fInt, PW.fAbs, PW.fMax2, PW.fMin2, PW.fTuple, PW.fList, PW.fMaxL, PW.fMinL, PW.fIs, PW.isTy, PW.fIsO, PW.fFld, PW.fCon, PW.fTab, PW.fInTab, PW.fNInTab, PW.plain, PW.plainL, PW.eqv, PW.eqvL, PW.small, PW.putO, PW.free, PW.isBo_sh, PW.isBo_un, PW.isBo_ow, PW.isBo_rd, PW.wipe, PW.unwipe, PW.isLst, PW.putF, PW.iSeq, PW.iStr, PW.iRng1, PW.iRng2, PW.iRngD, PW.iEnum, PW.iZip, PW.items, PW.bNil, PW.bV, PW.bB, PW.bR, PW.kCall, PW.kMeth, PW.kMake, PW.oV, PW.oR, PW.oB, PW.isObj, PW.isCls, PW.wSh, PW.nFr, PW.wInO, PW.wNInO, PW.call, PW.lent, PW.lentB, PW.lentR, PW.lentOk, PW.back_nil, PW.back_v, PW.back_r, PW.back_b, PW.entry, PW.noX, PW.b2i, PW.nLc, PW.fDget, PW.fDin, PW.fDnin, PW.fDlen, PW.nDit, PW.nDic, PW.sDput, PW.putKv, PW.dKv, PW.fSortSet, PW.wMt, PW.fSIndex, PW.fSFind, PW.isStr, PW.isLst1, PW.nLc2, PW.elt1, PW.elt2, line_eq]
      refine ⟨by omega, hK2 _ _ ⟨d2, ws ++ [w], hd2, by simp, by simp [hi], fun z hz => ?_, rfl⟩⟩
      rcases List.mem_append.mp hz with q1 | q1
      · exact hws z q1
      · simp at q1; subst q1; exact ⟨hw, by simpa using lw⟩
    · rintro acc ρ ⟨d, ws, hd, rfl, hi, hws, rfl⟩
      have h4 : ws.length = 4 := by simpa [rng_len] using hi
      match ws, h4, hws with
      | [w0, w1, w2, w3], _, hws =>
        simp [PW.sSeq, PW.sPass, PW.sBreak, PW.sCont, PW.sNever, PW.sExpr, PW.sSet, PW.sNew, PW.sPut, PW.sApp, PW.sFld, PW.sAsg, PW.sRet, PW.sRetN, PW.sRetF, PW.sRetO, PW.sIf, PW.sFor, PW.gN, PW.gT, PW.gUn, PW.wC, PW.wV, PW.rN, PW.rE, PW.peek, PW.wUn, PW.wBin, PW.wLk, PW.wLk2, PW.wLkR, PW.wLkB, PW.tB, PW.tTr, PW.truth, PW.tAnd, PW.tOr, PW.tNot, PW.tYes, PW.wAnd, PW.wOr, PW.wNot, PW.wIf, PW.wChain, PW.aNil, PW.aCons, PW.wTup, PW.nLst, PW.nCat, PW.nRep, PW.wPart, PW.fSl, PW.wSl, PW.nSl, PW.wSlL, PW.fAdd, PW.fSub, PW.fMul, PW.fFdiv, PW.fMod, PW.fPow, PW.fShl, PW.fShr, PW.fAnd, PW.fOr, PW.fXor, PW.fNeg, PW.fLt, PW.fLe, PW.fGt, PW.fGe, PW.fEq, PW.fNe, PW.fIsNone, PW.fIsntNone, PW.isNon, PW.fIn, PW.fNotIn, PW.fIx, PW.fLen, PW.fInt, PW.fAbs, PW.fMax2, PW.fMin2, PW.fTuple, PW.fList, PW.fMaxL, PW.fMinL, PW.fIs, PW.isTy, PW.fIsO, PW.fFld, PW.fCon, PW.fTab, PW.fInTab, PW.fNInTab, PW.plain, PW.plainL, PW.eqv, PW.eqvL, PW.small, PW.putO, PW.free, PW.isBo_sh, PW.isBo_un, PW.isBo_ow, PW.isBo_rd, PW.wipe, PW.unwipe, PW.isLst, PW.putF, PW.iSeq, PW.iStr, PW.iRng1, PW.iRng2, PW.iRngD, PW.iEnum, PW.iZip, PW.items, PW.bNil, PW.bV, PW.bB, PW.bR, PW.kCall, PW.kMeth, PW.kMake, PW.oV, PW.oR, PW.oB, PW.isObj, PW.isCls, PW.wSh, PW.nFr, PW.wInO, PW.wNInO, PW.call, PW.lent, PW.lentB, PW.lentR, PW.lentOk, PW.back_nil, PW.back_v, PW.back_r, PW.back_b, PW.entry, PW.noX, PW.b2i, PW.nLc, PW.fDget, PW.fDin, PW.fDnin, PW.fDlen, PW.nDit, PW.nDic, PW.sDput, PW.putKv, PW.dKv, PW.fSortSet, PW.wMt, PW.fSIndex, PW.fSFind, PW.isStr, PW.isLst1, PW.nLc2, PW.elt1, PW.elt2, line_eq]
        exact hK _ ⟨d, w0, w1, w2, w3, hd, hws w0 (by simp), hws w1 (by simp), hws w2 (by simp), hws w3 (by simp), rfl⟩
  rintro ρ ⟨d, w0, w1, w2, w3, hd, ⟨o0, l0⟩, ⟨o1, l1⟩, ⟨o2, l2⟩, ⟨o3, l3⟩, rfl⟩
  have hc : (cut w0 none (some 1)).length ≤ 1 := by simp [cut, sIx]; omega
  have ho : Over s (cut w0 none (some 1)) := fun z hz => by
    simp only [cut] at hz
    exact o0 z (List.mem_of_mem_drop (List.mem_of_mem_take hz))
  refine seq_cut (fun ρ => ∃ d w1, IsSt d ∧ Over s w1 ∧ w1.length ≤ 4 ∧ ρ = [.sh (.scr ns), .ow d, .sh (.str s), .sh (natD r), .sh (.str t), .ow (.lst [.str w0, .str w1, .str w2, .str w3]), .un]) (fun K hK => ?_) ?_
  · simp [PW.sSeq, PW.sPass, PW.sBreak, PW.sCont, PW.sNever, PW.sExpr, PW.sSet, PW.sNew, PW.sPut, PW.sApp, PW.sFld, PW.sAsg, PW.sRet, PW.sRetN, PW.sRetF, PW.sRetO, PW.sIf, PW.sFor, PW.gN, PW.gT, PW.gUn, PW.wC, PW.wV, PW.rN, PW.rE, PW.peek, PW.wUn, PW.wBin, PW.wLk, PW.wLk2, PW.wLkR, PW.wLkB, PW.tB, PW.tTr, PW.truth, PW.tAnd, PW.tOr, PW.tNot, PW.tYes, PW.wAnd, PW.wOr, PW.wNot, PW.wIf, PW.wChain, PW.aNil, PW.aCons, PW.wTup, PW.nLst, PW.nCat, PW.nRep, PW.wPart, PW.fSl, PW.wSl, PW.nSl, PW.wSlL, PW.fAdd, PW.fSub, PW.fMul, PW.fFdiv, PW.fMod, PW.fPow, PW.fShl, PW.fShr, PW.fAnd, PW.fOr, PW.fXor, PW.fNeg, PW.fLt, PW.fLe, PW.fGt, PW.fGe, PW.fEq, PW.fNe, PW.fIsNone, PW.fIsntNone, PW.isNon, PW.fIn, PW.fNotIn, PW.fIx, PW.fLen, PW.fInt, PW.fAbs, PW.fMax2, PW.fMin2, PW.fTuple, PW.fList, PW.fMaxL, PW.fMinL, PW.fIs, PW.isTy, PW.fIsO, PW.fFld, PW.fCon, PW.fTab, PW.fInTab, PW.fNInTab, PW.plain, PW.plainL, PW.eqv, PW.eqvL, PW.small, PW.putO, PW.free, PW.isBo_sh, PW.isBo_un, PW.isBo_ow, PW.isBo_rd, PW.wipe, PW.unwipe, PW.isLst, PW.putF, PW.iSeq, PW.iStr, PW.iRng1, PW.iRng2, PW.iRngD, PW.iEnum, PW.iZip, PW.items, PW.bNil, PW.bV, PW.bB, PW.bR, PW.kCall, PW.kMeth, PW.kMake, PW.oV, PW.oR, PW.oB, PW.isObj, PW.isCls, PW.wSh, PW.nFr, PW.wInO, PW.wNInO, PW.call, PW.lent, PW.lentB, PW.lentR, PW.lentOk, PW.back_nil, PW.back_v, PW.back_r, PW.back_b, PW.entry, PW.noX, PW.b2i, PW.nLc, PW.fDget, PW.fDin, PW.fDnin, PW.fDlen, PW.nDit, PW.nDic, PW.sDput, PW.putKv, PW.dKv, PW.fSortSet, PW.wMt, PW.fSIndex, PW.fSFind, PW.isStr, PW.isLst1, PW.nLc2, PW.elt1, PW.elt2, line_eq]
    refine ⟨d, 2, hd, by omega, by omega, rfl, fun d2 x hd2 x0 x1 => ?_⟩
    simp [PW.sSeq, PW.sPass, PW.sBreak, PW.sCont, PW.sNever, PW.sExpr, PW.sSet, PW.sNew, PW.sPut, PW.sApp, PW.sFld, PW.sAsg, PW.sRet, PW.sRetN, PW.sRetF, PW.sRetO, PW.sIf, PW.sFor, PW.gN, PW.gT, PW.gUn, PW.wC, PW.wV, PW.rN, PW.rE, PW.peek, PW.wUn, PW.wBin, PW.wLk, PW.wLk2, PW.wLkR, PW.wLkB, PW.tB, PW.tTr, PW.truth, PW.tAnd, PW.tOr, PW.tNot, PW.tYes, PW.wAnd, PW.wOr, PW.wNot, PW.wIf, PW.wChain, PW.aNil, PW.aCons, PW.wTup, PW.nLst, PW.nCat, PW.nRep, PW.wPart, PW.fSl, PW.wSl, PW.nSl, PW.wSlL, PW.fAdd, PW.fSub, PW.fMul, PW.fFdiv, PW.fMod, PW.fPow, PW.fShl, PW.fShr, PW.fAnd, PW.fOr, PW.fXor, PW.fNeg, PW.fLt, PW.fLe, PW.fGt, PW.fGe, PW.fEq, PW.fNe, PW.fIsNone, PW.fIsntNone, PW.isNon, PW.fIn, PW.fNotIn, PW.fIx, PW.fLen, PW.fInt, PW.fAbs, PW.fMax2, PW.fMin2, PW.fTuple, PW.fList, PW.fMaxL, PW.fMinL, PW.fIs, PW.isTy, PW.fIsO, PW.fFld, PW.fCon, PW.fTab, PW.fInTab, PW.fNInTab, PW.plain, PW.plainL, PW.eqv, PW.eqvL, PW.small, PW.putO, PW.free, PW.isBo_sh, PW.isBo_un, PW.isBo_ow, PW.isBo_rd, PW.wipe, PW.unwipe, PW.isLst, PW.putF, PW.iSeq, PW.iStr, PW.iRng1, PW.iRng2, PW.iRngD, PW.iEnum, PW.iZip, PW.items, PW.bNil, PW.bV, PW.bB, PW.bR, PW.kCall, PW.kMeth, PW.kMake, PW.oV, PW.oR, PW.oB, PW.isObj, PW.isCls, PW.wSh, PW.nFr, PW.wInO, PW.wNInO, PW.call, PW.lent, PW.lentB, PW.lentR, PW.lentOk, PW.back_nil, PW.back_v, PW.back_r, PW.back_b, PW.entry, PW.noX, PW.b2i, PW.nLc, PW.fDget, PW.fDin, PW.fDnin, PW.fDlen, PW.nDit, PW.nDic, PW.sDput, PW.putKv, PW.dKv, PW.fSortSet, PW.wMt, PW.fSIndex, PW.fSFind, PW.isStr, PW.isLst1, PW.nLc2, PW.elt1, PW.elt2, line_eq]
    by_cases cx : x = 1
    · simp [PW.sSeq, PW.sPass, PW.sBreak, PW.sCont, PW.sNever, PW.sExpr, PW.sSet, PW.sNew, PW.sPut, PW.sApp, PW.sFld, PW.sAsg, PW.sRet, PW.sRetN, PW.sRetF, PW.sRetO, PW.sIf, PW.sFor, PW.gN, PW.gT, PW.gUn, PW.wC, PW.wV, PW.rN, PW.rE, PW.peek, PW.wUn, PW.wBin, PW.wLk, PW.wLk2, PW.wLkR, PW.wLkB, PW.tB, PW.tTr, PW.truth, PW.tAnd, PW.tOr, PW.tNot, PW.tYes, PW.wAnd, PW.wOr, PW.wNot, PW.wIf, PW.wChain, PW.aNil, PW.aCons, PW.wTup, PW.nLst, PW.nCat, PW.nRep, PW.wPart, PW.fSl, PW.wSl, PW.nSl, PW.wSlL, PW.fAdd, PW.fSub, PW.fMul, PW.fFdiv, PW.fMod, PW.fPow, PW.fShl, PW.fShr, PW.fAnd, PW.fOr, PW.fXor, PW.fNeg, PW.fLt, PW.fLe, PW.fGt, PW.fGe, PW.fEq, PW.fNe, PW.fIsNone, PW.fIsntNone, PW.isNon, PW.fIn, PW.fNotIn, PW.fIx, PW.fLen, PW.fInt, PW.fAbs, PW.fMax2, PW.fMin2, PW.fTuple, PW.fList, PW.fMaxL, PW.fMinL, PW.fIs, PW.isTy, PW.fIsO, PW.fFld, PW.fCon, PW.fTab, PW.fInTab, PW.fNInTab, PW.plain, PW.plainL, PW.eqv, PW.eqvL, PW.small, PW.putO, PW.free, PW.isBo_sh, PW.isBo_un, PW.isBo_ow, PW.isBo_rd, PW.wipe, PW.unwipe, PW.isLst, PW.putF, PW.iSeq, PW.iStr, PW.iRng1, PW.iRng2, PW.iRngD, PW.iEnum, PW.iZip, PW.items, PW.bNil, PW.bV, PW.bB, PW.bR, PW.kCall, PW.kMeth, PW.kMake, PW.oV, PW.oR, PW.oB, PW.isObj, PW.isCls, PW.wSh, PW.nFr, PW.wInO, PW.wNInO, PW.call, PW.lent, PW.lentB, PW.lentR, PW.lentOk, PW.back_nil, PW.back_v, PW.back_r, PW.back_b, PW.entry, PW.noX, PW.b2i, PW.nLc, PW.fDget, PW.fDin, PW.fDnin, PW.fDlen, PW.nDit, PW.nDic, PW.sDput, PW.putKv, PW.dKv, PW.fSortSet, PW.wMt, PW.fSIndex, PW.fSFind, PW.isStr, PW.isLst1, PW.nLc2, PW.elt1, PW.elt2, line_eq, cx, PW.atI, PW.ixN]
      refine ⟨by omega, by omega, hK _ ⟨d2, cut w0 none (some 1) ++ w0, hd2, over_app ho o0, by simp; omega, rfl⟩⟩
    · simp [PW.sSeq, PW.sPass, PW.sBreak, PW.sCont, PW.sNever, PW.sExpr, PW.sSet, PW.sNew, PW.sPut, PW.sApp, PW.sFld, PW.sAsg, PW.sRet, PW.sRetN, PW.sRetF, PW.sRetO, PW.sIf, PW.sFor, PW.gN, PW.gT, PW.gUn, PW.wC, PW.wV, PW.rN, PW.rE, PW.peek, PW.wUn, PW.wBin, PW.wLk, PW.wLk2, PW.wLkR, PW.wLkB, PW.tB, PW.tTr, PW.truth, PW.tAnd, PW.tOr, PW.tNot, PW.tYes, PW.wAnd, PW.wOr, PW.wNot, PW.wIf, PW.wChain, PW.aNil, PW.aCons, PW.wTup, PW.nLst, PW.nCat, PW.nRep, PW.wPart, PW.fSl, PW.wSl, PW.nSl, PW.wSlL, PW.fAdd, PW.fSub, PW.fMul, PW.fFdiv, PW.fMod, PW.fPow, PW.fShl, PW.fShr, PW.fAnd, PW.fOr, PW.fXor, PW.fNeg, PW.fLt, PW.fLe, PW.fGt, PW.fGe, PW.fEq, PW.fNe, PW.fIsNone, PW.fIsntNone, PW.isNon, PW.fIn, PW.fNotIn, PW.fIx, PW.fLen, PW.fInt, PW.fAbs, PW.fMax2, PW.fMin2, PW.fTuple, PW.fList, PW.fMaxL, PW.fMinL, PW.fIs, PW.isTy, PW.fIsO, PW.fFld, PW.fCon, PW.fTab, PW.fInTab, PW.fNInTab, PW.plain, PW.plainL, PW.eqv, PW.eqvL, PW.small, PW.putO, PW.free, PW.isBo_sh, PW.isBo_un, PW.isBo_ow, PW.isBo_rd, PW.wipe, PW.unwipe, PW.isLst, PW.putF, PW.iSeq, PW.iStr, PW.iRng1, PW.iRng2, PW.iRngD, PW.iEnum, PW.iZip, PW.items, PW.bNil, PW.bV, PW.bB, PW.bR, PW.kCall, PW.kMeth, PW.kMake, PW.oV, PW.oR, PW.oB, PW.isObj, PW.isCls, PW.wSh, PW.nFr, PW.wInO, PW.wNInO, PW.call, PW.lent, PW.lentB, PW.lentR, PW.lentOk, PW.back_nil, PW.back_v, PW.back_r, PW.back_b, PW.entry, PW.noX, PW.b2i, PW.nLc, PW.fDget, PW.fDin, PW.fDnin, PW.fDlen, PW.nDit, PW.nDic, PW.sDput, PW.putKv, PW.dKv, PW.fSortSet, PW.wMt, PW.fSIndex, PW.fSFind, PW.isStr, PW.isLst1, PW.nLc2, PW.elt1, PW.elt2, line_eq, cx]
      exact hK _ ⟨d2, w1, hd2, o1, by omega, rfl⟩
  clear o1 l1 w1
  rintro ρ ⟨d, w1, hd, o1, l1, rfl⟩
  refine seq_cut (fun ρ => ρ = [.sh (.scr ns), .ow d, .sh (.str s), .sh (natD r), .sh (.str t), .ow (.lst [.str w0, .str w1, .str w2, .str w3]), .un]) (fun K hK => ?_) ?_
  · simp [PW.sSeq, PW.sPass, PW.sBreak, PW.sCont, PW.sNever, PW.sExpr, PW.sSet, PW.sNew, PW.sPut, PW.sApp, PW.sFld, PW.sAsg, PW.sRet, PW.sRetN, PW.sRetF, PW.sRetO, PW.sIf, PW.sFor, PW.gN, PW.gT, PW.gUn, PW.wC, PW.wV, PW.rN, PW.rE, PW.peek, PW.wUn, PW.wBin, PW.wLk, PW.wLk2, PW.wLkR, PW.wLkB, PW.tB, PW.tTr, PW.truth, PW.tAnd, PW.tOr, PW.tNot, PW.tYes, PW.wAnd, PW.wOr, PW.wNot, PW.wIf, PW.wChain, PW.aNil, PW.aCons, PW.wTup, PW.nLst, PW.nCat, PW.nRep, PW.wPart, PW.fSl, PW.wSl, PW.nSl, PW.wSlL, PW.fAdd, PW.fSub, PW.fMul, PW.fFdiv, PW.fMod, PW.fPow, PW.fShl, PW.fShr, PW.fAnd, PW.fOr, PW.fXor, PW.fNeg, PW.fLt, PW.fLe, PW.fGt, PW.fGe, PW.fEq, PW.fNe, PW.fIsNone, PW.fIsntNone, PW.isNon, PW.fIn, PW.fNotIn, PW.fIx, PW.fLen, PW.fInt, PW.fAbs, PW.fMax2, PW.fMin2, PW.fTuple, PW.fList, PW.fMaxL, PW.fMinL, PW.fIs, PW.isTy, PW.fIsO, PW.fFld, PW.fCon, PW.fTab, PW.fInTab, PW.fNInTab, PW.plain, PW.plainL, PW.eqv, PW.eqvL, PW.small, PW.putO, PW.free, PW.isBo_sh, PW.isBo_un, PW.isBo_ow, PW.isBo_rd, PW.wipe, PW.unwipe, PW.isLst, PW.putF, PW.iSeq, PW.iStr, PW.iRng1, PW.iRng2, PW.iRngD, PW.iEnum, PW.iZip, PW.items, PW.bNil, PW.bV, PW.bB, PW.bR, PW.kCall, PW.kMeth, PW.kMake, PW.oV, PW.oR, PW.oB, PW.isObj, PW.isCls, PW.wSh, PW.nFr, PW.wInO, PW.wNInO, PW.call, PW.lent, PW.lentB, PW.lentR, PW.lentOk, PW.back_nil, PW.back_v, PW.back_r, PW.back_b, PW.entry, PW.noX, PW.b2i, PW.nLc, PW.fDget, PW.fDin, PW.fDnin, PW.fDlen, PW.nDit, PW.nDic, PW.sDput, PW.putKv, PW.dKv, PW.fSortSet, PW.wMt, PW.fSIndex, PW.fSFind, PW.isStr, PW.isLst1, PW.nLc2, PW.elt1, PW.elt2, line_eq, PW.atI, PW.ixN]
    refine ⟨s, t, w0, w1, r, hs, hs2, hs3, ht, hts, o0, o1, by omega, by omega, hr, rfl, fun os => ?_⟩
    simp [PW.sSeq, PW.sPass, PW.sBreak, PW.sCont, PW.sNever, PW.sExpr, PW.sSet, PW.sNew, PW.sPut, PW.sApp, PW.sFld, PW.sAsg, PW.sRet, PW.sRetN, PW.sRetF, PW.sRetO, PW.sIf, PW.sFor, PW.gN, PW.gT, PW.gUn, PW.wC, PW.wV, PW.rN, PW.rE, PW.peek, PW.wUn, PW.wBin, PW.wLk, PW.wLk2, PW.wLkR, PW.wLkB, PW.tB, PW.tTr, PW.truth, PW.tAnd, PW.tOr, PW.tNot, PW.tYes, PW.wAnd, PW.wOr, PW.wNot, PW.wIf, PW.wChain, PW.aNil, PW.aCons, PW.wTup, PW.nLst, PW.nCat, PW.nRep, PW.wPart, PW.fSl, PW.wSl, PW.nSl, PW.wSlL, PW.fAdd, PW.fSub, PW.fMul, PW.fFdiv, PW.fMod, PW.fPow, PW.fShl, PW.fShr, PW.fAnd, PW.fOr, PW.fXor, PW.fNeg, PW.fLt, PW.fLe, PW.fGt, PW.fGe, PW.fEq, PW.fNe, PW.fIsNone, PW.fIsntNone, PW.isNon, PW.fIn, PW.fNotIn, PW.fIx, PW.fLen, PW.fInt, PW.fAbs, PW.fMax2, PW.fMin2, PW.fTuple, PW.fList, PW.fMaxL, PW.fMinL, PW.fIs, PW.isTy, PW.fIsO, PW.fFld, PW.fCon, PW.fTab, PW.fInTab, PW.fNInTab, PW.plain, PW.plainL, PW.eqv, PW.eqvL, PW.small, PW.putO, PW.free, PW.isBo_sh, PW.isBo_un, PW.isBo_ow, PW.isBo_rd, PW.wipe, PW.unwipe, PW.isLst, PW.putF, PW.iSeq, PW.iStr, PW.iRng1, PW.iRng2, PW.iRngD, PW.iEnum, PW.iZip, PW.items, PW.bNil, PW.bV, PW.bB, PW.bR, PW.kCall, PW.kMeth, PW.kMake, PW.oV, PW.oR, PW.oB, PW.isObj, PW.isCls, PW.wSh, PW.nFr, PW.wInO, PW.wNInO, PW.call, PW.lent, PW.lentB, PW.lentR, PW.lentOk, PW.back_nil, PW.back_v, PW.back_r, PW.back_b, PW.entry, PW.noX, PW.b2i, PW.nLc, PW.fDget, PW.fDin, PW.fDnin, PW.fDlen, PW.nDit, PW.nDic, PW.sDput, PW.putKv, PW.dKv, PW.fSortSet, PW.wMt, PW.fSIndex, PW.fSFind, PW.isStr, PW.isLst1, PW.nLc2, PW.elt1, PW.elt2, line_eq]
    exact hK _ rfl
  rintro ρ rfl
  simp [PW.sSeq, PW.sPass, PW.sBreak, PW.sCont, PW.sNever, PW.sExpr, PW.sSet, PW.sNew, PW.sPut, PW.sApp, PW.sFld, PW.sAsg, PW.sRet, PW.sRetN, PW.sRetF, PW.sRetO, PW.sIf, PW.sFor, PW.gN, PW.gT, PW.gUn, PW.wC, PW.wV, PW.rN, PW.rE, PW.peek, PW.wUn, PW.wBin, PW.wLk, PW.wLk2, PW.wLkR, PW.wLkB, PW.tB, PW.tTr, PW.truth, PW.tAnd, PW.tOr, PW.tNot, PW.tYes, PW.wAnd, PW.wOr, PW.wNot, PW.wIf, PW.wChain, PW.aNil, PW.aCons, PW.wTup, PW.nLst, PW.nCat, PW.nRep, PW.wPart, PW.fSl, PW.wSl, PW.nSl, PW.wSlL, PW.fAdd, PW.fSub, PW.fMul, PW.fFdiv, PW.fMod, PW.fPow, PW.fShl, PW.fShr, PW.fAnd, PW.fOr, PW.fXor, PW.fNeg, PW.fLt, PW.fLe, PW.fGt, PW.fGe, PW.fEq, PW.fNe, PW.fIsNone, PW.fIsntNone, PW.isNon, PW.fIn, PW.fNotIn, PW.fIx, PW.fLen, PW.fInt, PW.fAbs, PW.fMax2, PW.fMin2, PW.fTuple, PW.fList, PW.fMaxL, PW.fMinL, PW.fIs, PW.isTy, PW.fIsO, PW.fFld, PW.fCon, PW.fTab, PW.fInTab, PW.fNInTab, PW.plain, PW.plainL, PW.eqv, PW.eqvL, PW.small, PW.putO, PW.free, PW.isBo_sh, PW.isBo_un, PW.isBo_ow, PW.isBo_rd, PW.wipe, PW.unwipe, PW.isLst, PW.putF, PW.iSeq, PW.iStr, PW.iRng1, PW.iRng2, PW.iRngD, PW.iEnum, PW.iZip, PW.items, PW.bNil, PW.bV, PW.bB, PW.bR, PW.kCall, PW.kMeth, PW.kMake, PW.oV, PW.oR, PW.oB, PW.isObj, PW.isCls, PW.wSh, PW.nFr, PW.wInO, PW.wNInO, PW.call, PW.lent, PW.lentB, PW.lentR, PW.lentOk, PW.back_nil, PW.back_v, PW.back_r, PW.back_b, PW.entry, PW.noX, PW.b2i, PW.nLc, PW.fDget, PW.fDin, PW.fDnin, PW.fDlen, PW.nDit, PW.nDic, PW.sDput, PW.putKv, PW.dKv, PW.fSortSet, PW.wMt, PW.fSIndex, PW.fSFind, PW.isStr, PW.isLst1, PW.nLc2, PW.elt1, PW.elt2, line_eq, PW.atI, PW.ixN]
  refine ⟨s, w0, w1, r, hs, o0, o1, by omega, by omega, hr, rfl, fun b1 os hb1 => ?_⟩
  simp [PW.sSeq, PW.sPass, PW.sBreak, PW.sCont, PW.sNever, PW.sExpr, PW.sSet, PW.sNew, PW.sPut, PW.sApp, PW.sFld, PW.sAsg, PW.sRet, PW.sRetN, PW.sRetF, PW.sRetO, PW.sIf, PW.sFor, PW.gN, PW.gT, PW.gUn, PW.wC, PW.wV, PW.rN, PW.rE, PW.peek, PW.wUn, PW.wBin, PW.wLk, PW.wLk2, PW.wLkR, PW.wLkB, PW.tB, PW.tTr, PW.truth, PW.tAnd, PW.tOr, PW.tNot, PW.tYes, PW.wAnd, PW.wOr, PW.wNot, PW.wIf, PW.wChain, PW.aNil, PW.aCons, PW.wTup, PW.nLst, PW.nCat, PW.nRep, PW.wPart, PW.fSl, PW.wSl, PW.nSl, PW.wSlL, PW.fAdd, PW.fSub, PW.fMul, PW.fFdiv, PW.fMod, PW.fPow, PW.fShl, PW.fShr, PW.fAnd, PW.fOr, PW.fXor, PW.fNeg, PW.fLt, PW.fLe, PW.fGt, PW.fGe, PW.fEq, PW.fNe, PW.fIsNone, PW.fIsntNone, PW.isNon, PW.fIn, PW.fNotIn, PW.fIx, PW.fLen, PW.fInt, PW.fAbs, PW.fMax2, PW.fMin2, PW.fTuple, PW.fList, PW.fMaxL, PW.fMinL, PW.fIs, PW.isTy, PW.fIsO, PW.fFld, PW.fCon, PW.fTab, PW.fInTab, PW.fNInTab, PW.plain, PW.plainL, PW.eqv, PW.eqvL, PW.small, PW.putO, PW.free, PW.isBo_sh, PW.isBo_un, PW.isBo_ow, PW.isBo_rd, PW.wipe, PW.unwipe, PW.isLst, PW.putF, PW.iSeq, PW.iStr, PW.iRng1, PW.iRng2, PW.iRngD, PW.iEnum, PW.iZip, PW.items, PW.bNil, PW.bV, PW.bB, PW.bR, PW.kCall, PW.kMeth, PW.kMake, PW.oV, PW.oR, PW.oB, PW.isObj, PW.isCls, PW.wSh, PW.nFr, PW.wInO, PW.wNInO, PW.call, PW.lent, PW.lentB, PW.lentR, PW.lentOk, PW.back_nil, PW.back_v, PW.back_r, PW.back_b, PW.entry, PW.noX, PW.b2i, PW.nLc, PW.fDget, PW.fDin, PW.fDnin, PW.fDlen, PW.nDit, PW.nDic, PW.sDput, PW.putKv, PW.dKv, PW.fSortSet, PW.wMt, PW.fSIndex, PW.fSFind, PW.isStr, PW.isLst1, PW.nLc2, PW.elt1, PW.elt2, line_eq, PW.atI, PW.ixN]
  cases b1 with
  | false => simp [PW.sSeq, PW.sPass, PW.sBreak, PW.sCont, PW.sNever, PW.sExpr, PW.sSet, PW.sNew, PW.sPut, PW.sApp, PW.sFld, PW.sAsg, PW.sRet, PW.sRetN, PW.sRetF, PW.sRetO, PW.sIf, PW.sFor, PW.gN, PW.gT, PW.gUn, PW.wC, PW.wV, PW.rN, PW.rE, PW.peek, PW.wUn, PW.wBin, PW.wLk, PW.wLk2, PW.wLkR, PW.wLkB, PW.tB, PW.tTr, PW.truth, PW.tAnd, PW.tOr, PW.tNot, PW.tYes, PW.wAnd, PW.wOr, PW.wNot, PW.wIf, PW.wChain, PW.aNil, PW.aCons, PW.wTup, PW.nLst, PW.nCat, PW.nRep, PW.wPart, PW.fSl, PW.wSl, PW.nSl, PW.wSlL, PW.fAdd, PW.fSub, PW.fMul, PW.fFdiv, PW.fMod, PW.fPow, PW.fShl, PW.fShr, PW.fAnd, PW.fOr, PW.fXor, PW.fNeg, PW.fLt, PW.fLe, PW.fGt, PW.fGe, PW.fEq, PW.fNe, PW.fIsNone, PW.fIsntNone, PW.isNon, PW.fIn, PW.fNotIn, PW.fIx, PW.fLen, PW.fInt, PW.fAbs, PW.fMax2, PW.fMin2, PW.fTuple, PW.fList, PW.fMaxL, PW.fMinL, PW.fIs, PW.isTy, PW.fIsO, PW.fFld, PW.fCon, PW.fTab, PW.fInTab, PW.fNInTab, PW.plain, PW.plainL, PW.eqv, PW.eqvL, PW.small, PW.putO, PW.free, PW.isBo_sh, PW.isBo_un, PW.isBo_ow, PW.isBo_rd, PW.wipe, PW.unwipe, PW.isLst, PW.putF, PW.iSeq, PW.iStr, PW.iRng1, PW.iRng2, PW.iRngD, PW.iEnum, PW.iZip, PW.items, PW.bNil, PW.bV, PW.bB, PW.bR, PW.kCall, PW.kMeth, PW.kMake, PW.oV, PW.oR, PW.oB, PW.isObj, PW.isCls, PW.wSh, PW.nFr, PW.wInO, PW.wNInO, PW.call, PW.lent, PW.lentB, PW.lentR, PW.lentOk, PW.back_nil, PW.back_v, PW.back_r, PW.back_b, PW.entry, PW.noX, PW.b2i, PW.nLc, PW.fDget, PW.fDin, PW.fDnin, PW.fDlen, PW.nDit, PW.nDic, PW.sDput, PW.putKv, PW.dKv, PW.fSortSet, PW.wMt, PW.fSIndex, PW.fSFind, PW.isStr, PW.isLst1, PW.nLc2, PW.elt1, PW.elt2, line_eq]; exact h _
  | true =>
    simp [PW.sSeq, PW.sPass, PW.sBreak, PW.sCont, PW.sNever, PW.sExpr, PW.sSet, PW.sNew, PW.sPut, PW.sApp, PW.sFld, PW.sAsg, PW.sRet, PW.sRetN, PW.sRetF, PW.sRetO, PW.sIf, PW.sFor, PW.gN, PW.gT, PW.gUn, PW.wC, PW.wV, PW.rN, PW.rE, PW.peek, PW.wUn, PW.wBin, PW.wLk, PW.wLk2, PW.wLkR, PW.wLkB, PW.tB, PW.tTr, PW.truth, PW.tAnd, PW.tOr, PW.tNot, PW.tYes, PW.wAnd, PW.wOr, PW.wNot, PW.wIf, PW.wChain, PW.aNil, PW.aCons, PW.wTup, PW.nLst, PW.nCat, PW.nRep, PW.wPart, PW.fSl, PW.wSl, PW.nSl, PW.wSlL, PW.fAdd, PW.fSub, PW.fMul, PW.fFdiv, PW.fMod, PW.fPow, PW.fShl, PW.fShr, PW.fAnd, PW.fOr, PW.fXor, PW.fNeg, PW.fLt, PW.fLe, PW.fGt, PW.fGe, PW.fEq, PW.fNe, PW.fIsNone, PW.fIsntNone, PW.isNon, PW.fIn, PW.fNotIn, PW.fIx, PW.fLen, PW.fInt, PW.fAbs, PW.fMax2, PW.fMin2, PW.fTuple, PW.fList, PW.fMaxL, PW.fMinL, PW.fIs, PW.isTy, PW.fIsO, PW.fFld, PW.fCon, PW.fTab, PW.fInTab, PW.fNInTab, PW.plain, PW.plainL, PW.eqv, PW.eqvL, PW.small, PW.putO, PW.free, PW.isBo_sh, PW.isBo_un, PW.isBo_ow, PW.isBo_rd, PW.wipe, PW.unwipe, PW.isLst, PW.putF, PW.iSeq, PW.iStr, PW.iRng1, PW.iRng2, PW.iRngD, PW.iEnum, PW.iZip, PW.items, PW.bNil, PW.bV, PW.bB, PW.bR, PW.kCall, PW.kMeth, PW.kMake, PW.oV, PW.oR, PW.oB, PW.isObj, PW.isCls, PW.wSh, PW.nFr, PW.wInO, PW.wNInO, PW.call, PW.lent, PW.lentB, PW.lentR, PW.lentOk, PW.back_nil, PW.back_v, PW.back_r, PW.back_b, PW.entry, PW.noX, PW.b2i, PW.nLc, PW.fDget, PW.fDin, PW.fDnin, PW.fDlen, PW.nDit, PW.nDic, PW.sDput, PW.putKv, PW.dKv, PW.fSortSet, PW.wMt, PW.fSIndex, PW.fSFind, PW.isStr, PW.isLst1, PW.nLc2, PW.elt1, PW.elt2, line_eq, PW.atI, PW.ixN]
    refine ⟨s, w2, w3, r, hs, o2, o3, by omega, by omega, hr, rfl, fun b2 os hb2 => ?_⟩
    cases b2 with
    | false => simp [PW.sSeq, PW.sPass, PW.sBreak, PW.sCont, PW.sNever, PW.sExpr, PW.sSet, PW.sNew, PW.sPut, PW.sApp, PW.sFld, PW.sAsg, PW.sRet, PW.sRetN, PW.sRetF, PW.sRetO, PW.sIf, PW.sFor, PW.gN, PW.gT, PW.gUn, PW.wC, PW.wV, PW.rN, PW.rE, PW.peek, PW.wUn, PW.wBin, PW.wLk, PW.wLk2, PW.wLkR, PW.wLkB, PW.tB, PW.tTr, PW.truth, PW.tAnd, PW.tOr, PW.tNot, PW.tYes, PW.wAnd, PW.wOr, PW.wNot, PW.wIf, PW.wChain, PW.aNil, PW.aCons, PW.wTup, PW.nLst, PW.nCat, PW.nRep, PW.wPart, PW.fSl, PW.wSl, PW.nSl, PW.wSlL, PW.fAdd, PW.fSub, PW.fMul, PW.fFdiv, PW.fMod, PW.fPow, PW.fShl, PW.fShr, PW.fAnd, PW.fOr, PW.fXor, PW.fNeg, PW.fLt, PW.fLe, PW.fGt, PW.fGe, PW.fEq, PW.fNe, PW.fIsNone, PW.fIsntNone, PW.isNon, PW.fIn, PW.fNotIn, PW.fIx, PW.fLen, PW.fInt, PW.fAbs, PW.fMax2, PW.fMin2, PW.fTuple, PW.fList, PW.fMaxL, PW.fMinL, PW.fIs, PW.isTy, PW.fIsO, PW.fFld, PW.fCon, PW.fTab, PW.fInTab, PW.fNInTab, PW.plain, PW.plainL, PW.eqv, PW.eqvL, PW.small, PW.putO, PW.free, PW.isBo_sh, PW.isBo_un, PW.isBo_ow, PW.isBo_rd, PW.wipe, PW.unwipe, PW.isLst, PW.putF, PW.iSeq, PW.iStr, PW.iRng1, PW.iRng2, PW.iRngD, PW.iEnum, PW.iZip, PW.items, PW.bNil, PW.bV, PW.bB, PW.bR, PW.kCall, PW.kMeth, PW.kMake, PW.oV, PW.oR, PW.oB, PW.isObj, PW.isCls, PW.wSh, PW.nFr, PW.wInO, PW.wNInO, PW.call, PW.lent, PW.lentB, PW.lentR, PW.lentOk, PW.back_nil, PW.back_v, PW.back_r, PW.back_b, PW.entry, PW.noX, PW.b2i, PW.nLc, PW.fDget, PW.fDin, PW.fDnin, PW.fDlen, PW.nDit, PW.nDic, PW.sDput, PW.putKv, PW.dKv, PW.fSortSet, PW.wMt, PW.fSIndex, PW.fSFind, PW.isStr, PW.isLst1, PW.nLc2, PW.elt1, PW.elt2, line_eq]; exact h _
    | true =>
      simp [PW.sSeq, PW.sPass, PW.sBreak, PW.sCont, PW.sNever, PW.sExpr, PW.sSet, PW.sNew, PW.sPut, PW.sApp, PW.sFld, PW.sAsg, PW.sRet, PW.sRetN, PW.sRetF, PW.sRetO, PW.sIf, PW.sFor, PW.gN, PW.gT, PW.gUn, PW.wC, PW.wV, PW.rN, PW.rE, PW.peek, PW.wUn, PW.wBin, PW.wLk, PW.wLk2, PW.wLkR, PW.wLkB, PW.tB, PW.tTr, PW.truth, PW.tAnd, PW.tOr, PW.tNot, PW.tYes, PW.wAnd, PW.wOr, PW.wNot, PW.wIf, PW.wChain, PW.aNil, PW.aCons, PW.wTup, PW.nLst, PW.nCat, PW.nRep, PW.wPart, PW.fSl, PW.wSl, PW.nSl, PW.wSlL, PW.fAdd, PW.fSub, PW.fMul, PW.fFdiv, PW.fMod, PW.fPow, PW.fShl, PW.fShr, PW.fAnd, PW.fOr, PW.fXor, PW.fNeg, PW.fLt, PW.fLe, PW.fGt, PW.fGe, PW.fEq, PW.fNe, PW.fIsNone, PW.fIsntNone, PW.isNon, PW.fIn, PW.fNotIn, PW.fIx, PW.fLen, PW.fInt, PW.fAbs, PW.fMax2, PW.fMin2, PW.fTuple, PW.fList, PW.fMaxL, PW.fMinL, PW.fIs, PW.isTy, PW.fIsO, PW.fFld, PW.fCon, PW.fTab, PW.fInTab, PW.fNInTab, PW.plain, PW.plainL, PW.eqv, PW.eqvL, PW.small, PW.putO, PW.free, PW.isBo_sh, PW.isBo_un, PW.isBo_ow, PW.isBo_rd, PW.wipe, PW.unwipe, PW.isLst, PW.putF, PW.iSeq, PW.iStr, PW.iRng1, PW.iRng2, PW.iRngD, PW.iEnum, PW.iZip, PW.items, PW.bNil, PW.bV, PW.bB, PW.bR, PW.kCall, PW.kMeth, PW.kMake, PW.oV, PW.oR, PW.oB, PW.isObj, PW.isCls, PW.wSh, PW.nFr, PW.wInO, PW.wNInO, PW.call, PW.lent, PW.lentB, PW.lentR, PW.lentOk, PW.back_nil, PW.back_v, PW.back_r, PW.back_b, PW.entry, PW.noX, PW.b2i, PW.nLc, PW.fDget, PW.fDin, PW.fDnin, PW.fDlen, PW.nDit, PW.nDic, PW.sDput, PW.putKv, PW.dKv, PW.fSortSet, PW.wMt, PW.fSIndex, PW.fSFind, PW.isStr, PW.isLst1, PW.nLc2, PW.elt1, PW.elt2, line_eq, PW.atI, PW.ixN]
      refine ⟨by omega, by omega, s, w0 ++ w2, w1 ++ w3, r, hs, over_app o0 o2, over_app o1 o3, by simp; omega, by simp; omega, hr, rfl, fun b3 os hb3 => ?_⟩
      have e3 : b3 = true := hb3.mpr ((hb1.mp rfl).app (hb2.mp rfl))
      subst e3
      simp [PW.sSeq, PW.sPass, PW.sBreak, PW.sCont, PW.sNever, PW.sExpr, PW.sSet, PW.sNew, PW.sPut, PW.sApp, PW.sFld, PW.sAsg, PW.sRet, PW.sRetN, PW.sRetF, PW.sRetO, PW.sIf, PW.sFor, PW.gN, PW.gT, PW.gUn, PW.wC, PW.wV, PW.rN, PW.rE, PW.peek, PW.wUn, PW.wBin, PW.wLk, PW.wLk2, PW.wLkR, PW.wLkB, PW.tB, PW.tTr, PW.truth, PW.tAnd, PW.tOr, PW.tNot, PW.tYes, PW.wAnd, PW.wOr, PW.wNot, PW.wIf, PW.wChain, PW.aNil, PW.aCons, PW.wTup, PW.nLst, PW.nCat, PW.nRep, PW.wPart, PW.fSl, PW.wSl, PW.nSl, PW.wSlL, PW.fAdd, PW.fSub, PW.fMul, PW.fFdiv, PW.fMod, PW.fPow, PW.fShl, PW.fShr, PW.fAnd, PW.fOr, PW.fXor, PW.fNeg, PW.fLt, PW.fLe, PW.fGt, PW.fGe, PW.fEq, PW.fNe, PW.fIsNone, PW.fIsntNone, PW.isNon, PW.fIn, PW.fNotIn, PW.fIx, PW.fLen, PW.fInt, PW.fAbs, PW.fMax2, PW.fMin2, PW.fTuple, PW.fList, PW.fMaxL, PW.fMinL, PW.fIs, PW.isTy, PW.fIsO, PW.fFld, PW.fCon, PW.fTab, PW.fInTab, PW.fNInTab, PW.plain, PW.plainL, PW.eqv, PW.eqvL, PW.small, PW.putO, PW.free, PW.isBo_sh, PW.isBo_un, PW.isBo_ow, PW.isBo_rd, PW.wipe, PW.unwipe, PW.isLst, PW.putF, PW.iSeq, PW.iStr, PW.iRng1, PW.iRng2, PW.iRngD, PW.iEnum, PW.iZip, PW.items, PW.bNil, PW.bV, PW.bB, PW.bR, PW.kCall, PW.kMeth, PW.kMake, PW.oV, PW.oR, PW.oB, PW.isObj, PW.isCls, PW.wSh, PW.nFr, PW.wInO, PW.wNInO, PW.call, PW.lent, PW.lentB, PW.lentR, PW.lentOk, PW.back_nil, PW.back_v, PW.back_r, PW.back_b, PW.entry, PW.noX, PW.b2i, PW.nLc, PW.fDget, PW.fDin, PW.fDnin, PW.fDlen, PW.nDit, PW.nDic, PW.sDput, PW.putKv, PW.dKv, PW.fSortSet, PW.wMt, PW.fSIndex, PW.fSFind, PW.isStr, PW.isLst1, PW.nLc2, PW.elt1, PW.elt2, line_eq]
      refine same_bl true fun os => ?_
      simpa [PW.sSeq, PW.sPass, PW.sBreak, PW.sCont, PW.sNever, PW.sExpr, PW.sSet, PW.sNew, PW.sPut, PW.sApp, PW.sFld, PW.sAsg, PW.sRet, PW.sRetN, PW.sRetF, PW.sRetO, PW.sIf, PW.sFor, PW.gN, PW.gT, PW.gUn, PW.wC, PW.wV, PW.rN, PW.rE, PW.peek, PW.wUn, PW.wBin, PW.wLk, PW.wLk2, PW.wLkR, PW.wLkB, PW.tB, PW.tTr, PW.truth, PW.tAnd, PW.tOr, PW.tNot, PW.tYes, PW.wAnd, PW.wOr, PW.wNot, PW.wIf, PW.wChain, PW.aNil, PW.aCons, PW.wTup, PW.nLst, PW.nCat, PW.nRep, PW.wPart, PW.fSl, PW.wSl, PW.nSl, PW.wSlL, PW.fAdd, PW.fSub, PW.fMul, PW.fFdiv, PW.fMod, PW.fPow, PW.fShl, PW.fShr, PW.fAnd, PW.fOr, PW.fXor, PW.fNeg, PW.fLt, PW.fLe, PW.fGt, PW.fGe, PW.fEq, PW.fNe, PW.fIsNone, PW.fIsntNone, PW.isNon, PW.fIn, PW.fNotIn, PW.fIx, PW.fLen, PW.fInt, PW.fAbs, PW.fMax2, PW.fMin2, PW.fTuple, PW.fList, PW.fMaxL, PW.fMinL, PW.fIs, PW.isTy, PW.fIsO, PW.fFld, PW.fCon, PW.fTab, PW.fInTab, PW.fNInTab, PW.plain, PW.plainL, PW.eqv, PW.eqvL, PW.small, PW.putO, PW.free, PW.isBo_sh, PW.isBo_un, PW.isBo_ow, PW.isBo_rd, PW.wipe, PW.unwipe, PW.isLst, PW.putF, PW.iSeq, PW.iStr, PW.iRng1, PW.iRng2, PW.iRngD, PW.iEnum, PW.iZip, PW.items, PW.bNil, PW.bV, PW.bB, PW.bR, PW.kCall, PW.kMeth, PW.kMake, PW.oV, PW.oR, PW.oB, PW.isObj, PW.isCls, PW.wSh, PW.nFr, PW.wInO, PW.wNInO, PW.call, PW.lent, PW.lentB, PW.lentR, PW.lentOk, PW.back_nil, PW.back_v, PW.back_r, PW.back_b, PW.entry, PW.noX, PW.b2i, PW.nLc, PW.fDget, PW.fDin, PW.fDnin, PW.fDlen, PW.nDit, PW.nDic, PW.sDput, PW.putKv, PW.dKv, PW.fSortSet, PW.wMt, PW.fSIndex, PW.fSFind, PW.isStr, PW.isLst1, PW.nLc2, PW.elt1, PW.elt2] using h _
theorem law_plain : ∀ ns (q : Ret → List Sl → Prop) (e : Exn → List Sl → Prop), (∀ os, q (.sh (.bl true)) os) → φ_law [.sh (.scr ns)] q e := fun ns q e h => ⟨ns, rfl, h⟩
end PW
end

section
set_option Elab.async false
set_option linter.all false
set_option maxRecDepth 100000
set_option maxHeartbeats 0
namespace Law_k86
open PySem PySem.Spec L2 PS
open PyProof.Rows hiding St
open PW (φ__law_new w__law_new hs__law_new len__law_new φ__law_draw w__law_draw hs__law_draw len__law_draw φ__law_letters w__law_letters hs__law_letters len__law_letters φ__law_alphabet w__law_alphabet hs__law_alphabet len__law_alphabet φ__law_word w__law_word hs__law_word len__law_word φ_letter_at w_letter_at hs_letter_at len_letter_at φ_plain_kind w_plain_kind hs_plain_kind len_plain_kind φ_kind_number φ_kind_numberN w_kind_number hs_kind_numberN len_kind_numberN no_kind_numberN φ_Game_wins w_Game_wins hs_Game_wins len_Game_wins φ_check_letters w_check_letters hs_check_letters len_check_letters φ_check_word w_check_word hs_check_word len_check_word φ_Game___init__ w_Game___init__ hs_Game___init__ len_Game___init__ φ_alike w_alike hs_alike len_alike φ__law_turned w__law_turned hs__law_turned len__law_turned φ__law_same φ__law_sameN w__law_same hs__law_sameN len__law_sameN no__law_sameN φ__law_exchanged w__law_exchanged hs__law_exchanged len__law_exchanged φ__law_related w__law_related hs__law_related len__law_related φ__law_loops w__law_loops hs__law_loops len__law_loops φ__law_numbers w__law_numbers hs__law_numbers len__law_numbers φ_law w_law hs_law len_law)
theorem sc__law_new : FnScope ["script"] ["script"] (defScope (top 18)) := ⟨rfl, rfl, rfl, by decide +kernel, rfl, by decide +kernel, by decide +kernel⟩
theorem ok__law_new {S : Stat} {mg : Str → Option Value} {base : Heap} {f : Addr} {fd : FuncData} (F : FunD S.K "_law_new" "_law_new" (defArgs (top 18)) (defBody (top 18)) (defScope (top 18)) [] [] f fd) (g_list : mg "list" = none) : FnOk S.P S.w S.K mg base (L2.CX S.P S.w) 1 f fd ["script"] (spOf S φ__law_new) :=
 fn_ok (k := 0) F sc__law_new len__law_new hs__law_new fun z vs ex cdv A outer s H E hL nd hr tk hp => (show SB S z vs ex _ _ w__law_new from
 (sb_one (ss_retF hL (ne_lst (sa_cons (se_new (ne_list rfl rfl rfl g_list (re_n 0))) (sa_cons se_int (sa_cons se_int (sa_cons se_int (sa_cons se_int sa_nil)))))))))
theorem sc__law_draw : FnScope ["state", "many", "cell", "digit"] ["state", "many"] (defScope (top 19)) := ⟨rfl, rfl, rfl, by decide +kernel, rfl, by decide +kernel, by decide +kernel⟩
theorem ok__law_draw {S : Stat} {mg : Str → Option Value} {base : Heap} {f : Addr} {fd : FuncData} (F : FunD S.K "_law_draw" "_law_draw" (defArgs (top 19)) (defBody (top 19)) (defScope (top 19)) [] [] f fd) (g_int : mg "int" = none) (g_len : mg "len" = none) : FnOk S.P S.w S.K mg base (L2.CX S.P S.w) 1 f fd ["state", "many"] (spOf S φ__law_draw) :=
 fn_ok (k := 0) F sc__law_draw len__law_draw hs__law_draw fun z vs ex cdv A outer s H E hL nd hr tk hp => (show SB S z vs ex _ _ w__law_draw from
 (sb_cons (ss_if (st_w (sw_and (st_eq hr rfl (re_e (se_ix rfl (re_n 0) se_int)) (re_e se_int)) (sw_and1 (st_lt (re_e (se_ix rfl (re_n 0) se_int)) (re_e (se_len rfl rfl g_len (re_e (se_ix rfl (re_n 0) se_int))))))))
 (sb_cons (ss_set 2 nd (se_ix rfl (re_e (se_ix rfl (re_n 0) se_int)) (se_ix rfl (re_n 0) se_int)))
 (sb_cons (ss_put 0 (se_add rfl (se_ix rfl (re_n 0) se_int) se_int) se_int)
 (sb_one (ss_if (st_ge (re_n 2) (re_e (se_pow se_int se_int)))
 (sb_cons (ss_put 0 (se_sub (se_v 2) (se_pow se_int se_int)) se_int)
 (sb_cons (ss_put 0 se_int se_int)
 (sb_one (ss_put 0 se_int se_int))))
 (sb_cons (ss_put 0 (se_mod (se_int1 rfl g_int (re_e (se_mul (se_v 2) se_int))) se_int) se_int)
 (sb_cons (ss_put 0 se_int se_int)
 (sb_one (ss_put 0 se_int se_int))))))))
 sb_nil)
 (sb_cons (ss_if (st_eq hr rfl (re_e (se_ix rfl (re_n 0) se_int)) (re_e se_int))
 (sb_one (ss_ret se_int))
 sb_nil)
 (sb_cons (ss_put 0 (se_sub (se_ix rfl (re_n 0) se_int) se_int) se_int)
 (sb_cons (ss_if (st_eq hr rfl (re_e (se_ix rfl (re_n 0) se_int)) (re_e se_int))
 (sb_cons (ss_set 3 nd (se_mod (se_int1 rfl g_int (re_e (se_ix rfl (re_n 0) se_int))) (se_v 1)))
 (sb_cons (ss_put 0 (se_fdiv (se_ix rfl (re_n 0) se_int) (se_v 1)) se_int)
 (sb_cons (ss_if (st_eq hr rfl (re_e (se_ix rfl (re_n 0) se_int)) (re_e se_int))
 (sb_one (ss_put 0 se_int se_int))
 sb_nil)
 (sb_one (ss_ret (se_v 3))))))
 sb_nil)
 (sb_cons (ss_put 0 (se_mod (se_int1 rfl g_int (re_e (se_mul (se_ix rfl (re_n 0) se_int) se_int))) se_int) se_int)
 (sb_one (ss_ret (se_mod (se_int1 rfl g_int (re_e (se_fdiv (se_ix rfl (re_n 0) se_int) se_int))) (se_v 1))))))))))
theorem sc__law_letters : FnScope ["state", "most", "small", "count", "at", "letters", "k"] ["state", "most"] (defScope (top 21)) := ⟨rfl, rfl, rfl, by decide +kernel, rfl, by decide +kernel, by decide +kernel⟩
theorem ok__law_letters {S : Stat} {mg : Str → Option Value} {base : Heap} {f : Addr} {fd : FuncData} (F : FunD S.K "_law_letters" "_law_letters" (defArgs (top 21)) (defBody (top 21)) (defScope (top 21)) [] [] f fd) (g_range : mg "range" = none) (c__law_draw : Callee S mg base 1 "_law_draw" φ__law_draw []) : FnOk S.P S.w S.K mg base (L2.CX S.P S.w) 2 f fd ["state", "most"] (spOf S φ__law_letters) :=
 fn_ok (k := 1) F sc__law_letters len__law_letters hs__law_letters fun z vs ex cdv A outer s H E hL nd hr tk hp => (show SB S z vs ex _ _ w__law_letters from
 (sb_cons (ss_set 2 nd (se_str rfl))
 (sb_cons (ss_set 3 nd (se_add rfl se_int (se_sh (kc c__law_draw hr tk (sl_b 0 (sl_v (se_v 1) sl_nil))))))
 (sb_cons (ss_set 4 nd (se_sh (kc c__law_draw hr tk (sl_b 0 (sl_v se_int sl_nil)))))
 (sb_cons (ss_set 5 nd (se_ix rfl (re_n 2) (se_v 4)))
 (sb_cons (ss_for hp (si_rng1 rfl g_range (se_sub (se_v 3) se_int)) (sg_n 6 nd)
 (sb_cons (ss_set 4 nd (se_add rfl (se_add rfl (se_v 4) se_int) (se_sh (kc c__law_draw hr tk (sl_b 0 (sl_v se_int sl_nil))))))
 (sb_one (ss_set 5 nd (se_add rfl (se_v 5) (se_ix rfl (re_n 2) (se_v 4)))))))
 (sb_one (ss_ret (se_v 5)))))))))
theorem sc__law_alphabet : FnScope ["state", "count", "small", "at", "letters", "k"] ["state", "count"] (defScope (top 23)) := ⟨rfl, rfl, rfl, by decide +kernel, rfl, by decide +kernel, by decide +kernel⟩
theorem ok__law_alphabet {S : Stat} {mg : Str → Option Value} {base : Heap} {f : Addr} {fd : FuncData} (F : FunD S.K "_law_alphabet" "_law_alphabet" (defArgs (top 23)) (defBody (top 23)) (defScope (top 23)) [] [] f fd) (g_range : mg "range" = none) (c__law_draw : Callee S mg base 1 "_law_draw" φ__law_draw []) : FnOk S.P S.w S.K mg base (L2.CX S.P S.w) 2 f fd ["state", "count"] (spOf S φ__law_alphabet) :=
 fn_ok (k := 1) F sc__law_alphabet len__law_alphabet hs__law_alphabet fun z vs ex cdv A outer s H E hL nd hr tk hp => (show SB S z vs ex _ _ w__law_alphabet from
 (sb_cons (ss_set 2 nd (se_str rfl))
 (sb_cons (ss_set 3 nd (se_sh (kc c__law_draw hr tk (sl_b 0 (sl_v se_int sl_nil)))))
 (sb_cons (ss_set 4 nd (se_ix rfl (re_n 2) (se_v 3)))
 (sb_cons (ss_for hp (si_rng1 rfl g_range (se_sub (se_v 1) se_int)) (sg_n 5 nd)
 (sb_cons (ss_set 3 nd (se_add rfl (se_add rfl (se_v 3) se_int) (se_sh (kc c__law_draw hr tk (sl_b 0 (sl_v se_int sl_nil))))))
 (sb_one (ss_set 4 nd (se_add rfl (se_v 4) (se_ix rfl (re_n 2) (se_v 3)))))))
 (sb_one (ss_ret (se_v 4))))))))
theorem sc__law_word : FnScope ["state", "letters", "most", "word", "k"] ["state", "letters", "most"] (defScope (top 22)) := ⟨rfl, rfl, rfl, by decide +kernel, rfl, by decide +kernel, by decide +kernel⟩
theorem ok__law_word {S : Stat} {mg : Str → Option Value} {base : Heap} {f : Addr} {fd : FuncData} (F : FunD S.K "_law_word" "_law_word" (defArgs (top 22)) (defBody (top 22)) (defScope (top 22)) [] [] f fd) (g_len : mg "len" = none) (g_range : mg "range" = none) (c__law_draw : Callee S mg base 1 "_law_draw" φ__law_draw []) : FnOk S.P S.w S.K mg base (L2.CX S.P S.w) 2 f fd ["state", "letters", "most"] (spOf S φ__law_word) :=
 fn_ok (k := 1) F sc__law_word len__law_word hs__law_word fun z vs ex cdv A outer s H E hL nd hr tk hp => (show SB S z vs ex _ _ w__law_word from
 (sb_cons (ss_set 3 nd (se_str rfl))
 (sb_cons (ss_for hp (si_rng1 rfl g_range (se_sh (kc c__law_draw hr tk (sl_b 0 (sl_v (se_add rfl (se_v 2) se_int) sl_nil))))) (sg_n 4 nd)
 (sb_one (ss_set 3 nd (se_add rfl (se_v 3) (se_ix rfl (re_n 1) (se_sh (kc c__law_draw hr tk (sl_b 0 (sl_v (se_len rfl rfl g_len (re_n 1)) sl_nil)))))))))
 (sb_one (ss_ret (se_v 3))))))
theorem sc_letter_at : FnScope ["word", "place"] ["word", "place"] (defScope (top 12)) := ⟨rfl, rfl, rfl, by decide +kernel, rfl, by decide +kernel, by decide +kernel⟩
theorem ok_letter_at {S : Stat} {mg : Str → Option Value} {base : Heap} {f : Addr} {fd : FuncData} (F : FunD S.K "letter_at" "letter_at" (defArgs (top 12)) (defBody (top 12)) (defScope (top 12)) [] [] f fd)  : FnOk S.P S.w S.K mg base (L2.CX S.P S.w) 1 f fd ["word", "place"] (spOf S φ_letter_at) :=
 fn_ok (k := 0) F sc_letter_at len_letter_at hs_letter_at fun z vs ex cdv A outer s H E hL nd hr tk hp => (show SB S z vs ex _ _ w_letter_at from
 (sb_cons (ss_if (st_eq hr rfl (re_n 1) (re_e se_int))
 (sb_one (ss_ret (se_str rfl)))
 sb_nil)
 (sb_one (ss_ret (se_ix rfl (re_n 0) (se_sub (se_v 1) se_int))))))
theorem sc_plain_kind : FnScope ["word", "places", "order", "one", "other", "place"] ["word", "places"] (defScope (top 13)) := ⟨rfl, rfl, rfl, by decide +kernel, rfl, by decide +kernel, by decide +kernel⟩
theorem ok_plain_kind {S : Stat} {mg : Str → Option Value} {base : Heap} {f : Addr} {fd : FuncData} (F : FunD S.K "plain_kind" "plain_kind" (defArgs (top 13)) (defBody (top 13)) (defScope (top 13)) [] [] f fd) (g_int : mg "int" = none) (g_tuple : mg "tuple" = none) (c_letter_at : Callee S mg base 1 "letter_at" φ_letter_at []) : FnOk S.P S.w S.K mg base (L2.CX S.P S.w) 2 f fd ["word", "places"] (spOf S φ_plain_kind) :=
 fn_ok (k := 1) F sc_plain_kind len_plain_kind hs_plain_kind fun z vs ex cdv A outer s H E hL nd hr tk hp => (show SB S z vs ex _ _ w_plain_kind from
 (sb_cons (ss_set 2 nd (se_tuple rfl rfl g_tuple (re_e (se_new (ne_lc2 (own := [("one", 3), ("other", 4)]) (own1 := [4]) nd (si_seq (se_v 1)) (by kernel_rfl) (fun s H C cl fp z' => (sg_n 3 nd)) (fun s H C cl fp z' => sp_nil) (fun s H C cl fp z' => (si_seq (se_v 1))) (fun s H C cl fp z' => (sg_n 4 nd)) (fun s H C cl fp z' => sp_nil) (fun s H C cl fp z' => (se_sub (se_int1 rfl g_int (re_e (se_gt (re_n 3) (re_n 4)))) (se_int1 rfl g_int (re_e (se_lt (re_n 3) (re_n 4)))))))))))
 (sb_one (ss_ret (se_tup (sa_cons (se_tuple rfl rfl g_tuple (re_e (se_new (ne_lc (own := [("place", 5)]) nd (si_seq (se_v 1)) (by kernel_rfl) (fun s H C cl fp z' => (sg_n 5 nd)) (fun s H C cl fp z' => sp_nil) (fun s H C cl fp z' => (se_sh (kc c_letter_at hr tk_no (sl_v (se_v 0) (sl_v (se_v 5) sl_nil))))))))) (sa_cons (se_v 2) sa_nil)))))))
theorem sc_kind_number : FnScope ["word", "places", "rounds", "numbers", "key", "further", "at"] ["word", "places", "rounds", "numbers"] (defScope (top 14)) := ⟨rfl, rfl, rfl, by decide +kernel, rfl, by decide +kernel, by decide +kernel⟩
theorem okN_kind_number {S : Stat} {mg : Str → Option Value} {base : Heap} {f : Addr} {fd : FuncData} (F : FunD S.K "kind_number" "kind_number" (defArgs (top 14)) (defBody (top 14)) (defScope (top 14)) [] [] f fd) (g_self : mg "kind_number" = some (.ref f)) (hb : Binds S.K fd ["word", "places", "rounds", "numbers"] []) (g_len : mg "len" = none) (g_range : mg "range" = none) (g_set : mg "set" = none) (g_sorted : mg "sorted" = none) (g_tuple : mg "tuple" = none) (c_plain_kind : Callee S mg base 2 "plain_kind" φ_plain_kind []) : ∀ n : Nat, FnOk S.P S.w S.K mg base (L2.CX S.P S.w) (2 + n + 1) f fd ["word", "places", "rounds", "numbers"] (spOf S (φ_kind_numberN n))
 | 0 => fn_no no_kind_numberN
 | n + 1 => fn_ok (k := 2 + n + 1) F sc_kind_number (len_kind_numberN (n + 1)) (hs_kind_numberN n) fun z vs ex cdv A outer s H E hL nd hr tk hp =>
  have c_kind_number : Callee S mg base (2 + n + 1) "kind_number" (φ_kind_numberN n) [] := ⟨f, fd, _, [], [], okN_kind_number F g_self hb g_len g_range g_set g_sorted g_tuple c_plain_kind n, g_self, F.kp, hb, .nil, fun _ => .nil⟩
  (show SB S z vs ex _ _ (w_kind_number (φ_kind_numberN n)) from
 (sb_cons (ss_if (st_eq hr rfl (re_n 2) (re_e se_int))
 (sb_one (ss_set 4 nd (se_sh (kc c_plain_kind hr tk (sl_v (se_v 0) (sl_v (se_v 1) sl_nil))))))
 (sb_cons (by first | exact ss_setLc 5 (own := [("at", 6)]) nd (si_rng1 rfl g_range (se_add rfl (se_len rfl rfl g_len (re_n 0)) se_int)) (by kernel_rfl) (fun s H C cl fp z' => (sg_n 6 nd)) (fun s H C cl fp z' => sp_nil) (fun s H C cl fp z' => (se_sh (kc c_kind_number hr tk_no (sl_v (se_v 0) (sl_v (se_add rfl (se_v 1) (se_tup (sa_cons (se_v 6) sa_nil))) (sl_v (se_sub (se_v 2) se_int) (sl_b 3 sl_nil))))))) | exact ss_new 5 nd (ne_lc (own := [("at", 6)]) nd (si_rng1 rfl g_range (se_add rfl (se_len rfl rfl g_len (re_n 0)) se_int)) (by kernel_rfl) (fun s H C cl fp z' => (sg_n 6 nd)) (fun s H C cl fp z' => sp_nil) (fun s H C cl fp z' => (se_sh (kc c_kind_number hr tk_no (sl_v (se_v 0) (sl_v (se_add rfl (se_v 1) (se_tup (sa_cons (se_v 6) sa_nil))) (sl_v (se_sub (se_v 2) se_int) (sl_b 3 sl_nil)))))))))
 (sb_one (ss_set 4 nd (se_tup (sa_cons (se_v 2) (sa_cons (se_tuple rfl rfl g_tuple (re_e (se_new (ne_sortSet g_sorted g_set (re_n 5))))) sa_nil)))))))
 (sb_cons (ss_if (st_dnin hr (re_n 4) (re_n 3))
 (sb_one (ss_dput 3 hr (se_dlen g_len (re_n 3)) (se_v 4)))
 sb_nil)
 (sb_one (ss_ret (se_dget hr (re_n 3) (se_v 4)))))))
theorem sc_Game_wins : FnScope ["self", "numbers", "left", "chosen", "pair", "side", "one"] ["self"] (defScope ((inClass (top 15) 6))) := ⟨rfl, rfl, rfl, by decide +kernel, rfl, by decide +kernel, by decide +kernel⟩
theorem ok_Game_wins {S : Stat} {mg : Str → Option Value} {base : Heap} {f : Addr} {fd : FuncData} (F : FunD S.K "wins" "Game.wins" (defArgs ((inClass (top 15) 6))) (defBody ((inClass (top 15) 6))) (defScope ((inClass (top 15) 6))) [] [] f fd) (g_len : mg "len" = none) (g_tuple : mg "tuple" = none) (c_kind_number : Callee S mg base 7 "kind_number" φ_kind_number []) (fl_Game_pairs : FldOk S "Game" "pairs") (fl_Game_rounds : FldOk S "Game" "rounds") (fl_Game_words : FldOk S "Game" "words") : FnOk S.P S.w S.K mg base (L2.CX S.P S.w) 8 f fd ["self"] (spOf S φ_Game_wins) :=
 fn_ok (k := 7) F sc_Game_wins len_Game_wins hs_Game_wins fun z vs ex cdv A outer s H E hL nd hr tk hp => (show SB S z vs ex _ _ w_Game_wins from
 (sb_cons (ss_new 1 nd ne_dit)
 (sb_cons (ss_set 2 nd (se_sub (se_fld fl_Game_rounds rfl (re_n 0)) (se_len rfl rfl g_len (re_e (se_fld fl_Game_pairs rfl (re_n 0))))))
 (sb_cons (by first | exact ss_setLc 3 (own := [("side", 5)]) nd (si_seq (se_tup (sa_cons se_int (sa_cons se_int sa_nil)))) (by kernel_rfl) (fun s H C cl fp z' => (sg_n 5 nd)) (fun s H C cl fp z' => sp_nil) (fun s H C cl fp z' => (se_tuple rfl rfl g_tuple (re_e (se_new (ne_lc (own := [("pair", 4)]) nd (si_seq (se_fld fl_Game_pairs rfl (re_n 0))) (by kernel_rfl) (fun s H C cl fp z' => (sg_n 4 nd)) (fun s H C cl fp z' => sp_nil) (fun s H C cl fp z' => (se_ix rfl (re_n 4) (se_v 5)))))))) | exact ss_new 3 nd (ne_lc (own := [("side", 5)]) nd (si_seq (se_tup (sa_cons se_int (sa_cons se_int sa_nil)))) (by kernel_rfl) (fun s H C cl fp z' => (sg_n 5 nd)) (fun s H C cl fp z' => sp_nil) (fun s H C cl fp z' => (se_tuple rfl rfl g_tuple (re_e (se_new (ne_lc (own := [("pair", 4)]) nd (si_seq (se_fld fl_Game_pairs rfl (re_n 0))) (by kernel_rfl) (fun s H C cl fp z' => (sg_n 4 nd)) (fun s H C cl fp z' => sp_nil) (fun s H C cl fp z' => (se_ix rfl (re_n 4) (se_v 5))))))))))
 (sb_cons (ss_set 6 nd (se_sh (kc c_kind_number hr tk (sl_v (se_ix rfl (re_e (se_fld fl_Game_words rfl (re_n 0))) se_int) (sl_v (se_ix rfl (re_n 3) se_int) (sl_v (se_v 2) (sl_b 1 sl_nil)))))))
 (sb_one (ss_ret (se_eq hr rfl (re_n 6) (re_e (se_sh (kc c_kind_number hr tk (sl_v (se_ix rfl (re_e (se_fld fl_Game_words rfl (re_n 0))) se_int) (sl_v (se_ix rfl (re_n 3) se_int) (sl_v (se_v 2) (sl_b 1 sl_nil)))))))))))))))
theorem sc_check_letters : FnScope ["letters", "last", "letter"] ["letters"] (defScope (top 9)) := ⟨rfl, rfl, rfl, by decide +kernel, rfl, by decide +kernel, by decide +kernel⟩
theorem ok_check_letters {S : Stat} {mg : Str → Option Value} {base : Heap} {f : Addr} {fd : FuncData} (F : FunD S.K "check_letters" "check_letters" (defArgs (top 9)) (defBody (top 9)) (defScope (top 9)) [] [] f fd) (g_len : mg "len" = none) {t_MOST_LETTERS : Tok} (g_MOST_LETTERS : mg "MOST_LETTERS" = some (.int 3 t_MOST_LETTERS)) {t_SMALL : Tok} (g_SMALL : mg "SMALL" = some (.str (Str.ofString "abcdefghijklmnopqrstuvwxyz") t_SMALL)) : FnOk S.P S.w S.K mg base (L2.CX S.P S.w) 1 f fd ["letters"] (spOf S φ_check_letters) :=
 fn_ok (k := 0) F sc_check_letters len_check_letters hs_check_letters fun z vs ex cdv A outer s H E hL nd hr tk hp => (show SB S z vs ex _ _ w_check_letters from
 (sb_cons (ss_if (st_not (st_chain o_le l_le o_le l_le se_int (se_len rfl rfl g_len (re_n 0)) (se_gint rfl g_MOST_LETTERS)))
 (sb_one ss_never)
 sb_nil)
 (sb_cons (ss_set 1 nd (se_str rfl))
 (sb_cons (ss_for hp (si_str (se_v 0)) (sg_n 2 nd)
 (sb_cons (ss_if (st_w (sw_or (st_nin rfl (re_n 2) (re_e (se_gstr rfl g_SMALL rfl))) (sw_or1 (st_le (re_n 2) (re_n 1)))))
 (sb_one ss_never)
 sb_nil)
 (sb_one (ss_set 1 nd (se_v 2)))))
 (sb_one (ss_ret (se_v 0)))))))
theorem sc_check_word : FnScope ["word", "letters", "index", "letter"] ["word", "letters"] (defScope (top 10)) := ⟨rfl, rfl, rfl, by decide +kernel, rfl, by decide +kernel, by decide +kernel⟩
theorem ok_check_word {S : Stat} {mg : Str → Option Value} {base : Heap} {f : Addr} {fd : FuncData} (F : FunD S.K "check_word" "check_word" (defArgs (top 10)) (defBody (top 10)) (defScope (top 10)) [] [] f fd) (g_enumerate : mg "enumerate" = none) : FnOk S.P S.w S.K mg base (L2.CX S.P S.w) 1 f fd ["word", "letters"] (spOf S φ_check_word) :=
 fn_ok (k := 0) F sc_check_word len_check_word hs_check_word fun z vs ex cdv A outer s H E hL nd hr tk hp => (show SB S z vs ex _ _ w_check_word from
 (sb_cons (ss_for hp (si_en g_enumerate (se_v 0)) (sg_tup (sgs_cons (sg_n 2 nd) (sgs_cons (sg_n 3 nd) sgs_nil)) (by intro g hg; simp only [List.mem_cons, List.not_mem_nil, or_false] at hg; rcases hg with rfl | rfl <;> exact (goes_n _)))
 (sb_one (ss_if (st_nin rfl (re_n 3) (re_n 1))
 (sb_one ss_never)
 sb_nil)))
 (sb_one (ss_ret (se_v 0)))))
theorem sc_Game___init__ : FnScope ["self", "letters", "one", "other", "rounds"] ["self", "letters", "one", "other", "rounds"] (defScope ((inClass (top 15) 1))) := ⟨rfl, rfl, rfl, by decide +kernel, rfl, by decide +kernel, by decide +kernel⟩
theorem ok_Game___init__ {S : Stat} {mg : Str → Option Value} {base : Heap} {f : Addr} {fd : FuncData} (F : FunD S.K "__init__" "Game.__init__" (defArgs ((inClass (top 15) 1))) (defBody ((inClass (top 15) 1))) (defScope ((inClass (top 15) 1))) [] [] f fd) (c_check_letters : Callee S mg base 1 "check_letters" φ_check_letters []) (c_check_word : Callee S mg base 1 "check_word" φ_check_word []) (co_Game_MOST_ROUNDS : ConOk S "Game" "MOST_ROUNDS" (.int 3)) (fl_Game_letters : FldOk S "Game" "letters") (fl_Game_pairs : FldOk S "Game" "pairs") (fl_Game_rounds : FldOk S "Game" "rounds") (fl_Game_words : FldOk S "Game" "words") : FnOk S.P S.w S.K mg base (L2.CX S.P S.w) 2 f fd ["self", "letters", "one", "other", "rounds"] (spOf S φ_Game___init__) :=
 fn_ok (k := 1) F sc_Game___init__ len_Game___init__ hs_Game___init__ fun z vs ex cdv A outer s H E hL nd hr tk hp => (show SB S z vs ex _ _ w_Game___init__ from
 (sb_cons (ss_fld 0 fl_Game_letters (se_sh (kc c_check_letters hr tk (sl_v (se_v 1) sl_nil))))
 (sb_cons (ss_fld 0 fl_Game_words (se_tup (sa_cons (se_sh (kc c_check_word hr tk (sl_v (se_v 2) (sl_v (se_v 1) sl_nil)))) (sa_cons (se_sh (kc c_check_word hr tk (sl_v (se_v 3) (sl_v (se_v 1) sl_nil)))) sa_nil))))
 (sb_cons (ss_if (st_not (st_chain o_le l_le o_le l_le se_int (se_v 4) (se_con co_Game_MOST_ROUNDS rfl (re_n 0))))
 (sb_one ss_never)
 sb_nil)
 (sb_cons (ss_fld 0 fl_Game_rounds (se_v 4))
 (sb_one (ss_fld 0 fl_Game_pairs (se_tup sa_nil))))))))
theorem sc_alike : FnScope ["letters", "one", "other", "rounds"] ["letters", "one", "other", "rounds"] (defScope (top 16)) := ⟨rfl, rfl, rfl, by decide +kernel, rfl, by decide +kernel, by decide +kernel⟩
theorem ok_alike {S : Stat} {mg : Str → Option Value} {base : Heap} {f : Addr} {fd : FuncData} (F : FunD S.K "alike" "alike" (defArgs (top 16)) (defBody (top 16)) (defScope (top 16)) [] [] f fd) (c_Game___init__ : Maker S mg base 2 "Game" φ_Game___init__ []) (c_Game_wins : MCallee S mg base 8 "Game" "wins" φ_Game_wins []) : FnOk S.P S.w S.K mg base (L2.CX S.P S.w) 9 f fd ["letters", "one", "other", "rounds"] (spOf S φ_alike) :=
 fn_ok (k := 8) F sc_alike len_alike hs_alike fun z vs ex cdv A outer s H E hL nd hr tk hp => (show SB S z vs ex _ _ w_alike from
 (sb_one (ss_ret (se_sh (km0 c_Game_wins hr tk (so_v (se_new (ne_fr (kn c_Game___init__ hr tk (sl_v (se_v 0) (sl_v (se_v 1) (sl_v (se_v 2) (sl_v (se_v 3) sl_nil)))))))))))))
theorem sc__law_turned : FnScope ["word", "result", "letter"] ["word"] (defScope (top 24)) := ⟨rfl, rfl, rfl, by decide +kernel, rfl, by decide +kernel, by decide +kernel⟩
theorem ok__law_turned {S : Stat} {mg : Str → Option Value} {base : Heap} {f : Addr} {fd : FuncData} (F : FunD S.K "_law_turned" "_law_turned" (defArgs (top 24)) (defBody (top 24)) (defScope (top 24)) [] [] f fd)  : FnOk S.P S.w S.K mg base (L2.CX S.P S.w) 1 f fd ["word"] (spOf S φ__law_turned) :=
 fn_ok (k := 0) F sc__law_turned len__law_turned hs__law_turned fun z vs ex cdv A outer s H E hL nd hr tk hp => (show SB S z vs ex _ _ w__law_turned from
 (sb_cons (ss_set 1 nd (se_str rfl))
 (sb_cons (ss_for hp (si_str (se_v 0)) (sg_n 2 nd)
 (sb_one (ss_set 1 nd (se_add rfl (se_v 2) (se_v 1)))))
 (sb_one (ss_ret (se_v 1))))))
theorem sc__law_same : FnScope ["actual", "expected", "k"] ["actual", "expected"] (defScope (top 20)) := ⟨rfl, rfl, rfl, by decide +kernel, rfl, by decide +kernel, by decide +kernel⟩
theorem okN__law_same {S : Stat} {mg : Str → Option Value} {base : Heap} {f : Addr} {fd : FuncData} (F : FunD S.K "_law_same" "_law_same" (defArgs (top 20)) (defBody (top 20)) (defScope (top 20)) [] [] f fd) (g_self : mg "_law_same" = some (.ref f)) (hb : Binds S.K fd ["actual", "expected"] []) (g_bool : mg "bool" = none) (g_int : mg "int" = none) (g_isinstance : mg "isinstance" = none) (g_len : mg "len" = none) (g_list : mg "list" = none) (g_range : mg "range" = none) (g_str : mg "str" = none) (g_tuple : mg "tuple" = none) : ∀ n : Nat, FnOk S.P S.w S.K mg base (L2.CX S.P S.w) (0 + n + 1) f fd ["actual", "expected"] (spOf S (φ__law_sameN n))
 | 0 => fn_no no__law_sameN
 | n + 1 => fn_ok (k := 0 + n + 1) F sc__law_same (len__law_sameN (n + 1)) (hs__law_sameN n) fun z vs ex cdv A outer s H E hL nd hr tk hp =>
  have c__law_same : Callee S mg base (0 + n + 1) "_law_same" (φ__law_sameN n) [] := ⟨f, fd, _, [], [], okN__law_same F g_self hb g_bool g_int g_isinstance g_len g_list g_range g_str g_tuple n, g_self, F.kp, hb, .nil, fun _ => .nil⟩
  (show SB S z vs ex _ _ (w__law_same (φ__law_sameN n)) from
 (sb_cons (ss_if (st_isN (re_n 1))
 (sb_one (ss_ret (se_isN (re_n 0))))
 sb_nil)
 (sb_cons (ss_if (st_val (se_is .bool rfl rfl g_isinstance rfl g_bool (by decide +kernel) (re_n 1)))
 (sb_one (ss_ret (se_and (se_is .bool rfl rfl g_isinstance rfl g_bool (by decide +kernel) (re_n 0)) (se_one (se_eq hr rfl (re_n 0) (re_n 1))))))
 sb_nil)
 (sb_cons (ss_if (st_val (se_is .int rfl rfl g_isinstance rfl g_int (by decide +kernel) (re_n 1)))
 (sb_one (ss_ret (se_and (se_is .int rfl rfl g_isinstance rfl g_int (by decide +kernel) (re_n 0)) (se_and (se_not rfl (re_e (se_is .bool rfl rfl g_isinstance rfl g_bool (by decide +kernel) (re_n 0)))) (se_one (se_eq hr rfl (re_n 0) (re_n 1)))))))
 sb_nil)
 (sb_cons (ss_if (st_val (se_is .str rfl rfl g_isinstance rfl g_str (by decide +kernel) (re_n 1)))
 (sb_one (ss_ret (se_and (se_is .str rfl rfl g_isinstance rfl g_str (by decide +kernel) (re_n 0)) (se_one (se_eq hr rfl (re_n 0) (re_n 1))))))
 sb_nil)
 (sb_cons (ss_if (st_w (sw_and (st_val (se_is .list rfl rfl g_isinstance rfl g_list (by decide +kernel) (re_n 1))) (sw_and1 (st_not (st_val (se_is .list rfl rfl g_isinstance rfl g_list (by decide +kernel) (re_n 0)))))))
 (sb_one (ss_ret se_bl))
 sb_nil)
 (sb_cons (ss_if (st_w (sw_and (st_val (se_is .tuple rfl rfl g_isinstance rfl g_tuple (by decide +kernel) (re_n 1))) (sw_and1 (st_not (st_val (se_is .tuple rfl rfl g_isinstance rfl g_tuple (by decide +kernel) (re_n 0)))))))
 (sb_one (ss_ret se_bl))
 sb_nil)
 (sb_cons (ss_if (st_ne hr rfl (re_e (se_len rfl rfl g_len (re_n 0))) (re_e (se_len rfl rfl g_len (re_n 1))))
 (sb_one (ss_ret se_bl))
 sb_nil)
 (sb_cons (ss_for hp (si_rng1 rfl g_range (se_len rfl rfl g_len (re_n 1))) (sg_n 2 nd)
 (sb_one (ss_if (st_not (st_val (se_sh (kc c__law_same hr tk (sl_v (se_ix rfl (re_n 0) (se_v 2)) (sl_v (se_ix rfl (re_n 1) (se_v 2)) sl_nil))))))
 (sb_one (ss_ret se_bl))
 sb_nil)))
 (sb_one (ss_ret se_bl)))))))))))
theorem sc__law_exchanged : FnScope ["word", "letters", "others", "result", "letter"] ["word", "letters", "others"] (defScope (top 25)) := ⟨rfl, rfl, rfl, by decide +kernel, rfl, by decide +kernel, by decide +kernel⟩
theorem ok__law_exchanged {S : Stat} {mg : Str → Option Value} {base : Heap} {f : Addr} {fd : FuncData} (F : FunD S.K "_law_exchanged" "_law_exchanged" (defArgs (top 25)) (defBody (top 25)) (defScope (top 25)) [] [] f fd)  : FnOk S.P S.w S.K mg base (L2.CX S.P S.w) 1 f fd ["word", "letters", "others"] (spOf S φ__law_exchanged) :=
 fn_ok (k := 0) F sc__law_exchanged len__law_exchanged hs__law_exchanged fun z vs ex cdv A outer s H E hL nd hr tk hp => (show SB S z vs ex _ _ w__law_exchanged from
 (sb_cons (ss_set 3 nd (se_str rfl))
 (sb_cons (ss_for hp (si_str (se_v 0)) (sg_n 4 nd)
 (sb_one (ss_set 3 nd (se_add rfl (se_v 3) (se_ix rfl (re_n 2) (se_sindex (re_n 1) (se_v 4)))))))
 (sb_one (ss_ret (se_v 3))))))
theorem sc__law_related : FnScope ["letters", "others", "one", "other", "rounds", "told", "turned", "larger", "moved", "named", "back"] ["letters", "others", "one", "other", "rounds"] (defScope (top 28)) := ⟨rfl, rfl, rfl, by decide +kernel, rfl, by decide +kernel, by decide +kernel⟩
theorem ok__law_related {S : Stat} {mg : Str → Option Value} {base : Heap} {f : Addr} {fd : FuncData} (F : FunD S.K "_law_related" "_law_related" (defArgs (top 28)) (defBody (top 28)) (defScope (top 28)) [] [] f fd) (c__law_exchanged : Callee S mg base 1 "_law_exchanged" φ__law_exchanged []) (c__law_same : Callee S mg base 5 "_law_same" φ__law_same []) (c__law_turned : Callee S mg base 1 "_law_turned" φ__law_turned []) (c_alike : Callee S mg base 9 "alike" φ_alike []) : FnOk S.P S.w S.K mg base (L2.CX S.P S.w) 10 f fd ["letters", "others", "one", "other", "rounds"] (spOf S φ__law_related) :=
 fn_ok (k := 9) F sc__law_related len__law_related hs__law_related fun z vs ex cdv A outer s H E hL nd hr tk hp => (show SB S z vs ex _ _ w__law_related from
 (sb_cons (ss_set 5 nd (se_sh (kc c_alike hr tk (sl_v (se_v 0) (sl_v (se_v 2) (sl_v (se_v 3) (sl_v (se_v 4) sl_nil)))))))
 (sb_cons (ss_set 6 nd (se_sh (kc c_alike hr tk (sl_v (se_v 0) (sl_v (se_sh (kc c__law_turned hr tk (sl_v (se_v 2) sl_nil))) (sl_v (se_sh (kc c__law_turned hr tk (sl_v (se_v 3) sl_nil))) (sl_v (se_v 4) sl_nil)))))))
 (sb_cons (ss_set 7 nd (se_sh (kc c_alike hr tk (sl_v (se_add rfl (se_v 0) (se_str rfl)) (sl_v (se_v 2) (sl_v (se_v 3) (sl_v (se_v 4) sl_nil)))))))
 (sb_cons (ss_set 8 nd (se_new (ne_lst (sa_cons (se_sh (kc c__law_exchanged hr tk (sl_v (se_v 2) (sl_v (se_v 0) (sl_v (se_v 1) sl_nil))))) (sa_cons (se_sh (kc c__law_exchanged hr tk (sl_v (se_v 3) (sl_v (se_v 0) (sl_v (se_v 1) sl_nil))))) sa_nil)))))
 (sb_cons (ss_set 9 nd (se_sh (kc c_alike hr tk (sl_v (se_v 1) (sl_v (se_ix rfl (re_n 8) se_int) (sl_v (se_ix rfl (re_n 8) se_int) (sl_v (se_v 4) sl_nil)))))))
 (sb_cons (ss_set 10 nd (se_sh (kc c__law_turned hr tk (sl_v (se_v 1) sl_nil))))
 (sb_cons (ss_set 8 nd (se_new (ne_lst (sa_cons (se_sh (kc c__law_exchanged hr tk (sl_v (se_v 2) (sl_v (se_v 0) (sl_v (se_v 10) sl_nil))))) (sa_cons (se_sh (kc c__law_exchanged hr tk (sl_v (se_v 3) (sl_v (se_v 0) (sl_v (se_v 10) sl_nil))))) sa_nil)))))
 (sb_one (ss_ret (se_sh (kc c__law_same hr tk (sl_v (se_new (ne_lst (sa_cons (se_v 6) (sa_cons (se_v 7) (sa_cons (se_v 9) (sa_cons (se_sh (kc c_alike hr tk (sl_v (se_v 1) (sl_v (se_ix rfl (re_n 8) se_int) (sl_v (se_ix rfl (re_n 8) se_int) (sl_v (se_v 4) sl_nil)))))) sa_nil)))))) (sl_v (se_new (ne_lst (sa_cons (se_v 5) (sa_cons (se_v 5) (sa_cons (se_v 5) (sa_cons (se_v 5) sa_nil)))))) sl_nil))))))))))))))
theorem sc__law_loops : FnScope ["state", "letters", "rounds", "first", "last", "loop", "number", "one", "other", "tail", "longer", "told"] ["state", "letters", "rounds"] (defScope (top 26)) := ⟨rfl, rfl, rfl, by decide +kernel, rfl, by decide +kernel, by decide +kernel⟩
theorem ok__law_loops {S : Stat} {mg : Str → Option Value} {base : Heap} {f : Addr} {fd : FuncData} (F : FunD S.K "_law_loops" "_law_loops" (defArgs (top 26)) (defBody (top 26)) (defScope (top 26)) [] [] f fd) (g_len : mg "len" = none) (c__law_draw : Callee S mg base 1 "_law_draw" φ__law_draw []) (c__law_same : Callee S mg base 5 "_law_same" φ__law_same []) (c__law_word : Callee S mg base 2 "_law_word" φ__law_word []) (c_alike : Callee S mg base 9 "alike" φ_alike []) : FnOk S.P S.w S.K mg base (L2.CX S.P S.w) 10 f fd ["state", "letters", "rounds"] (spOf S φ__law_loops) :=
 fn_ok (k := 9) F sc__law_loops len__law_loops hs__law_loops fun z vs ex cdv A outer s H E hL nd hr tk hp => (show SB S z vs ex _ _ w__law_loops from
 (sb_cons (ss_set 3 nd (se_sh (kc c__law_word hr tk (sl_b 0 (sl_v (se_v 1) (sl_v se_int sl_nil))))))
 (sb_cons (ss_set 4 nd (se_sh (kc c__law_word hr tk (sl_b 0 (sl_v (se_v 1) (sl_v se_int sl_nil))))))
 (sb_cons (ss_set 5 nd (se_ix rfl (re_n 1) (se_sh (kc c__law_draw hr tk (sl_b 0 (sl_v (se_len rfl rfl g_len (re_n 1)) sl_nil))))))
 (sb_cons (ss_set 6 nd (se_sub (se_shl se_int (se_v 2)) se_int))
 (sb_cons (ss_if (st_lt (re_n 2) (re_e se_int))
 (sb_cons (ss_set 5 nd (se_add rfl (se_v 5) (se_sh (kc c__law_word hr tk (sl_b 0 (sl_v (se_v 1) (sl_v se_int sl_nil)))))))
 (sb_one (ss_set 6 nd (se_add rfl (se_v 6) (se_sh (kc c__law_draw hr tk (sl_b 0 (sl_v se_int sl_nil))))))))
 (sb_one (ss_set 6 nd (se_add rfl (se_v 6) (se_sh (kc c__law_draw hr tk (sl_b 0 (sl_v se_int sl_nil))))))))
 (sb_cons (ss_set 7 nd (se_add rfl (se_add rfl (se_v 3) (se_mul (se_v 5) (se_v 6))) (se_v 4)))
 (sb_cons (ss_set 8 nd (se_add rfl (se_add rfl (se_v 3) (se_mul (se_v 5) (se_add rfl (se_v 6) se_int))) (se_v 4)))
 (sb_cons (ss_if (st_not (st_val (se_sh (kc c__law_same hr tk (sl_v (se_sh (kc c_alike hr tk (sl_v (se_v 1) (sl_v (se_v 7) (sl_v (se_v 8) (sl_v (se_v 2) sl_nil)))))) (sl_v se_bl sl_nil))))))
 (sb_one (ss_ret se_bl))
 sb_nil)
 (sb_cons (ss_set 9 nd (se_mul (se_ix rfl (re_n 1) (se_sh (kc c__law_draw hr tk (sl_b 0 (sl_v (se_len rfl rfl g_len (re_n 1)) sl_nil))))) (se_v 6)))
 (sb_cons (ss_set 10 nd (se_add rfl (se_v 9) (se_sl rfl (re_n 9) so_none (so_some se_int))))
 (sb_cons (ss_if (st_eq hr rfl (re_n 2) (re_e se_int))
 (sb_cons (ss_set 9 nd (se_sh (kc c__law_word hr tk (sl_b 0 (sl_v (se_v 1) (sl_v se_int sl_nil))))))
 (sb_one (ss_set 10 nd (se_v 9))))
 sb_nil)
 (sb_cons (ss_set 11 nd (se_new (ne_lst (sa_cons (se_sh (kc c_alike hr tk (sl_v (se_v 1) (sl_v (se_add rfl (se_v 7) (se_v 9)) (sl_v (se_add rfl (se_v 8) (se_v 10)) (sl_v (se_v 2) sl_nil)))))) (sa_cons (se_sh (kc c_alike hr tk (sl_v (se_v 1) (sl_v (se_add rfl (se_v 9) (se_v 8)) (sl_v (se_add rfl (se_v 10) (se_v 7)) (sl_v (se_v 2) sl_nil)))))) sa_nil)))))
 (sb_one (ss_ret (se_sh (kc c__law_same hr tk (sl_v (se_v 11) (sl_v (se_new (ne_lst (sa_cons se_bl (sa_cons se_bl sa_nil)))) sl_nil)))))))))))))))))))
theorem sc__law_numbers : FnScope ["state", "letters", "rounds", "letter", "most", "one", "other", "least", "due", "some", "few", "told"] ["state", "letters", "rounds"] (defScope (top 27)) := ⟨rfl, rfl, rfl, by decide +kernel, rfl, by decide +kernel, by decide +kernel⟩
theorem ok__law_numbers {S : Stat} {mg : Str → Option Value} {base : Heap} {f : Addr} {fd : FuncData} (F : FunD S.K "_law_numbers" "_law_numbers" (defArgs (top 27)) (defBody (top 27)) (defScope (top 27)) [] [] f fd) (g_len : mg "len" = none) (g_max : mg "max" = none) (c__law_draw : Callee S mg base 1 "_law_draw" φ__law_draw []) (c__law_same : Callee S mg base 5 "_law_same" φ__law_same []) (c_alike : Callee S mg base 9 "alike" φ_alike []) : FnOk S.P S.w S.K mg base (L2.CX S.P S.w) 10 f fd ["state", "letters", "rounds"] (spOf S φ__law_numbers) :=
 fn_ok (k := 9) F sc__law_numbers len__law_numbers hs__law_numbers fun z vs ex cdv A outer s H E hL nd hr tk hp => (show SB S z vs ex _ _ w__law_numbers from
 (sb_cons (ss_set 3 nd (se_ix rfl (re_n 1) (se_sh (kc c__law_draw hr tk (sl_b 0 (sl_v (se_len rfl rfl g_len (re_n 1)) sl_nil))))))
 (sb_cons (ss_set 4 nd se_int)
 (sb_cons (ss_if (st_eq hr rfl (re_n 2) (re_e se_int))
 (sb_one (ss_set 4 nd se_int))
 sb_nil)
 (sb_cons (ss_set 5 nd (se_sh (kc c__law_draw hr tk (sl_b 0 (sl_v (se_v 4) sl_nil)))))
 (sb_cons (ss_set 6 nd (se_sh (kc c__law_draw hr tk (sl_b 0 (sl_v (se_v 4) sl_nil)))))
 (sb_cons (ss_if (st_eq hr rfl (re_e (se_sh (kc c__law_draw hr tk (sl_b 0 (sl_v se_int sl_nil))))) (re_e se_int))
 (sb_one (ss_set 6 nd (se_max2 rfl rfl g_max se_int (se_sub (se_v 5) se_int))))
 sb_nil)
 (sb_cons (ss_set 7 nd (se_sub (se_shl se_int (se_v 2)) se_int))
 (sb_cons (ss_set 8 nd (se_or (se_eq hr rfl (re_n 5) (re_n 6)) (se_one (se_and (se_ge (re_n 5) (re_n 7)) (se_one (se_ge (re_n 6) (re_n 7)))))))
 (sb_cons (ss_if (st_not (st_val (se_sh (kc c__law_same hr tk (sl_v (se_sh (kc c_alike hr tk (sl_v (se_v 1) (sl_v (se_mul (se_v 3) (se_v 5)) (sl_v (se_mul (se_v 3) (se_v 6)) (sl_v (se_v 2) sl_nil)))))) (sl_v (se_v 8) sl_nil))))))
 (sb_one (ss_ret se_bl))
 sb_nil)
 (sb_cons (ss_set 9 nd (se_max2 rfl rfl g_max se_int (se_v 2)))
 (sb_cons (ss_set 10 nd (se_mul (se_v 3) (se_sub (se_shl se_int (se_v 9)) se_int)))
 (sb_cons (ss_set 11 nd (se_new (ne_lst (sa_cons (se_sh (kc c_alike hr tk (sl_v (se_v 1) (sl_v (se_v 10) (sl_v (se_add rfl (se_v 10) (se_v 3)) (sl_v (se_v 9) sl_nil)))))) (sa_cons (se_sh (kc c_alike hr tk (sl_v (se_v 1) (sl_v (se_add rfl (se_v 10) (se_v 3)) (sl_v (se_v 10) (sl_v (se_v 9) sl_nil)))))) sa_nil)))))
 (sb_one (ss_ret (se_sh (kc c__law_same hr tk (sl_v (se_v 11) (sl_v (se_new (ne_lst (sa_cons se_bl (sa_cons se_bl sa_nil)))) sl_nil)))))))))))))))))))
theorem sc_law : FnScope ["script", "state", "letters", "rounds", "others", "words", "k"] ["script"] (defScope (top 29)) := ⟨rfl, rfl, rfl, by decide +kernel, rfl, by decide +kernel, by decide +kernel⟩
theorem ok_law {S : Stat} {mg : Str → Option Value} {base : Heap} {f : Addr} {fd : FuncData} (F : FunD S.K "law" "law" (defArgs (top 29)) (defBody (top 29)) (defScope (top 29)) [] [] f fd) (g_len : mg "len" = none) (g_range : mg "range" = none) (c__law_alphabet : Callee S mg base 2 "_law_alphabet" φ__law_alphabet []) (c__law_draw : Callee S mg base 1 "_law_draw" φ__law_draw []) (c__law_letters : Callee S mg base 2 "_law_letters" φ__law_letters []) (c__law_loops : Callee S mg base 10 "_law_loops" φ__law_loops []) (c__law_new : Callee S mg base 1 "_law_new" φ__law_new []) (c__law_numbers : Callee S mg base 10 "_law_numbers" φ__law_numbers []) (c__law_related : Callee S mg base 10 "_law_related" φ__law_related []) (c__law_same : Callee S mg base 5 "_law_same" φ__law_same []) (c__law_word : Callee S mg base 2 "_law_word" φ__law_word []) (c_alike : Callee S mg base 9 "alike" φ_alike []) : FnOk S.P S.w S.K mg base (L2.CX S.P S.w) 11 f fd ["script"] (spOf S φ_law) :=
 fn_ok (k := 10) F sc_law len_law hs_law fun z vs ex cdv A outer s H E hL nd hr tk hp => (show SB S z vs ex _ _ w_law from
 (sb_cons (ss_new 1 nd (ne_fr (kc c__law_new hr tk (sl_v (se_v 0) sl_nil))))
 (sb_cons (ss_set 2 nd (se_sh (kc c__law_letters hr tk (sl_b 1 (sl_v se_int sl_nil)))))
 (sb_cons (ss_set 3 nd (se_ix rfl (re_e (se_new (ne_lst (sa_cons se_int (sa_cons se_int (sa_cons se_int (sa_cons se_int (sa_cons se_int (sa_cons se_int (sa_cons se_int (sa_cons se_int sa_nil))))))))))) (se_sh (kc c__law_draw hr tk (sl_b 1 (sl_v se_int sl_nil))))))
 (sb_cons (ss_if (st_w (sw_or (st_not (st_val (se_sh (kc c__law_loops hr tk (sl_b 1 (sl_v (se_v 2) (sl_v (se_v 3) sl_nil))))))) (sw_or1 (st_not (st_val (se_sh (kc c__law_numbers hr tk (sl_b 1 (sl_v (se_v 2) (sl_v (se_v 3) sl_nil))))))))))
 (sb_one (ss_ret se_bl))
 sb_nil)
 (sb_cons (ss_set 4 nd (se_sh (kc c__law_alphabet hr tk (sl_b 1 (sl_v (se_len rfl rfl g_len (re_n 2)) sl_nil)))))
 (sb_cons (by first | exact ss_setLc 5 (own := [("k", 6)]) nd (si_rng1 rfl g_range se_int) (by kernel_rfl) (fun s H C cl fp z' => (sg_n 6 nd)) (fun s H C cl fp z' => sp_nil) (fun s H C cl fp z' => (se_sh (kc c__law_word hr tk_no (sl_b 1 (sl_v (se_v 2) (sl_v se_int sl_nil)))))) | exact ss_new 5 nd (ne_lc (own := [("k", 6)]) nd (si_rng1 rfl g_range se_int) (by kernel_rfl) (fun s H C cl fp z' => (sg_n 6 nd)) (fun s H C cl fp z' => sp_nil) (fun s H C cl fp z' => (se_sh (kc c__law_word hr tk_no (sl_b 1 (sl_v (se_v 2) (sl_v se_int sl_nil))))))))
 (sb_cons (ss_if (st_eq hr rfl (re_e (se_sh (kc c__law_draw hr tk (sl_b 1 (sl_v se_int sl_nil))))) (re_e se_int))
 (sb_one (ss_put 5 (se_add rfl (se_sl rfl (re_e (se_ix rfl (re_n 5) se_int)) so_none (so_some se_int)) (se_ix rfl (re_n 5) se_int)) se_int))
 sb_nil)
 (sb_cons (ss_if (st_not (st_val (se_sh (kc c__law_related hr tk (sl_v (se_v 2) (sl_v (se_v 4) (sl_v (se_ix rfl (re_n 5) se_int) (sl_v (se_ix rfl (re_n 5) se_int) (sl_v (se_v 3) sl_nil)))))))))
 (sb_one (ss_ret se_bl))
 sb_nil)
 (sb_cons (ss_if (st_w (sw_and (st_val (se_sh (kc c_alike hr tk (sl_v (se_v 2) (sl_v (se_ix rfl (re_n 5) se_int) (sl_v (se_ix rfl (re_n 5) se_int) (sl_v (se_v 3) sl_nil))))))) (sw_and1 (st_val (se_sh (kc c_alike hr tk (sl_v (se_v 2) (sl_v (se_ix rfl (re_n 5) se_int) (sl_v (se_ix rfl (re_n 5) se_int) (sl_v (se_v 3) sl_nil))))))))))
 (sb_one (ss_ret (se_sh (kc c__law_same hr tk (sl_v (se_sh (kc c_alike hr tk (sl_v (se_v 2) (sl_v (se_add rfl (se_ix rfl (re_n 5) se_int) (se_ix rfl (re_n 5) se_int)) (sl_v (se_add rfl (se_ix rfl (re_n 5) se_int) (se_ix rfl (re_n 5) se_int)) (sl_v (se_v 3) sl_nil)))))) (sl_v se_bl sl_nil))))))
 sb_nil)
 (sb_one (ss_ret se_bl))))))))))))
theorem facts {P : Program} {w : World} {K : PySem.W.Frag} {h : Heap} {mg : Str → Option Value} {f : Addr} (X : K.In h) (G : h.Ns mainGlobals mg) (hfa : mg ("law" : Str) = some (.ref f)) (c : SaysQ fa fn ts bx w K) :
    ∃ fd : FuncData, (∀ (s : Shared) (v : Value), BindsTo s fd ⟨[v], []⟩ [("script", v)]) ∧ ∀ base : Heap, K.In base → base.Ns mainGlobals mg → FnOk P w K mg base CX0 11 f fd ["script"] (fun vs H Q _ => spOf ⟨P, w, K, fun c => some (He.ga K (Str.ofString c))⟩ φ_law vs H Q fun _ _ _ => False) := by
  obtain ⟨fd0, F0⟩ := c.d.def_ 0 (d := d0) rfl
  obtain ⟨fd1, F1⟩ := c.d.def_ 1 (d := d1) rfl
  obtain ⟨fd2, F2⟩ := c.d.def_ 2 (d := d2) rfl
  obtain ⟨fd3, F3⟩ := c.d.def_ 3 (d := d3) rfl
  obtain ⟨fd4, F4⟩ := c.d.def_ 4 (d := d4) rfl
  obtain ⟨fd5, F5⟩ := c.d.def_ 5 (d := d5) rfl
  obtain ⟨fd6, F6⟩ := c.d.def_ 6 (d := d6) rfl
  obtain ⟨fd7, F7⟩ := c.d.def_ 7 (d := d7) rfl
  obtain ⟨fd8, F8⟩ := c.d.def_ 8 (d := d8) rfl
  obtain ⟨fd9, F9⟩ := c.d.def_ 9 (d := d9) rfl
  obtain ⟨fd10, F10⟩ := c.d.def_ 10 (d := d10) rfl
  obtain ⟨fd11, F11⟩ := c.d.def_ 11 (d := d11) rfl
  obtain ⟨fd12, F12⟩ := c.d.def_ 12 (d := d12) rfl
  obtain ⟨fd13, F13⟩ := c.d.def_ 13 (d := d13) rfl
  obtain ⟨fd14, F14⟩ := c.d.def_ 14 (d := d14) rfl
  obtain ⟨fd15, F15⟩ := c.d.def_ 15 (d := d15) rfl
  obtain ⟨fd16, F16⟩ := c.d.def_ 16 (d := d16) rfl
  obtain ⟨fd17, F17⟩ := c.d.def_ 17 (d := d17) rfl
  obtain ⟨fd18, F18⟩ := c.d.def_ 18 (d := d18) rfl
  obtain ⟨fd19, F19⟩ := c.d.def_ 19 (d := d19) rfl
  have b0 : Binds K fd0 ["script"] [] := F0.bindsN fun _ _ _ _ _ _ us hl => match us, hl with | [_], _ => rfl
  have b1 : Binds K fd1 ["state", "many"] [] := F1.bindsN fun _ _ _ _ _ _ us hl => match us, hl with | [_, _], _ => rfl
  have b2 : Binds K fd2 ["state", "most"] [] := F2.bindsN fun _ _ _ _ _ _ us hl => match us, hl with | [_, _], _ => rfl
  have b3 : Binds K fd3 ["state", "count"] [] := F3.bindsN fun _ _ _ _ _ _ us hl => match us, hl with | [_, _], _ => rfl
  have b4 : Binds K fd4 ["state", "letters", "most"] [] := F4.bindsN fun _ _ _ _ _ _ us hl => match us, hl with | [_, _, _], _ => rfl
  have b5 : Binds K fd5 ["word", "place"] [] := F5.bindsN fun _ _ _ _ _ _ us hl => match us, hl with | [_, _], _ => rfl
  have b6 : Binds K fd6 ["word", "places"] [] := F6.bindsN fun _ _ _ _ _ _ us hl => match us, hl with | [_, _], _ => rfl
  have b7 : Binds K fd7 ["word", "places", "rounds", "numbers"] [] := F7.bindsN fun _ _ _ _ _ _ us hl => match us, hl with | [_, _, _, _], _ => rfl
  have b8 : Binds K fd8 ["self"] [] := F8.bindsN fun _ _ _ _ _ _ us hl => match us, hl with | [_], _ => rfl
  have b9 : Binds K fd9 ["letters"] [] := F9.bindsN fun _ _ _ _ _ _ us hl => match us, hl with | [_], _ => rfl
  have b10 : Binds K fd10 ["word", "letters"] [] := F10.bindsN fun _ _ _ _ _ _ us hl => match us, hl with | [_, _], _ => rfl
  have b11 : Binds K fd11 ["self", "letters", "one", "other", "rounds"] [] := F11.bindsN fun _ _ _ _ _ _ us hl => match us, hl with | [_, _, _, _, _], _ => rfl
  have b12 : Binds K fd12 ["letters", "one", "other", "rounds"] [] := F12.bindsN fun _ _ _ _ _ _ us hl => match us, hl with | [_, _, _, _], _ => rfl
  have b13 : Binds K fd13 ["word"] [] := F13.bindsN fun _ _ _ _ _ _ us hl => match us, hl with | [_], _ => rfl
  have b14 : Binds K fd14 ["actual", "expected"] [] := F14.bindsN fun _ _ _ _ _ _ us hl => match us, hl with | [_, _], _ => rfl
  have b15 : Binds K fd15 ["word", "letters", "others"] [] := F15.bindsN fun _ _ _ _ _ _ us hl => match us, hl with | [_, _, _], _ => rfl
  have b16 : Binds K fd16 ["letters", "others", "one", "other", "rounds"] [] := F16.bindsN fun _ _ _ _ _ _ us hl => match us, hl with | [_, _, _, _, _], _ => rfl
  have b17 : Binds K fd17 ["state", "letters", "rounds"] [] := F17.bindsN fun _ _ _ _ _ _ us hl => match us, hl with | [_, _, _], _ => rfl
  have b18 : Binds K fd18 ["state", "letters", "rounds"] [] := F18.bindsN fun _ _ _ _ _ _ us hl => match us, hl with | [_, _, _], _ => rfl
  have g_bool : mg "bool" = none := He.free_ok X G (c.d.fact 22 (f := .free "bool") rfl)
  have g_enumerate : mg "enumerate" = none := He.free_ok X G (c.d.fact 23 (f := .free "enumerate") rfl)
  have g_int : mg "int" = none := He.free_ok X G (c.d.fact 24 (f := .free "int") rfl)
  have g_isinstance : mg "isinstance" = none := He.free_ok X G (c.d.fact 25 (f := .free "isinstance") rfl)
  have g_len : mg "len" = none := He.free_ok X G (c.d.fact 26 (f := .free "len") rfl)
  have g_list : mg "list" = none := He.free_ok X G (c.d.fact 27 (f := .free "list") rfl)
  have g_max : mg "max" = none := He.free_ok X G (c.d.fact 28 (f := .free "max") rfl)
  have g_range : mg "range" = none := He.free_ok X G (c.d.fact 29 (f := .free "range") rfl)
  have g_set : mg "set" = none := He.free_ok X G (c.d.fact 30 (f := .free "set") rfl)
  have g_sorted : mg "sorted" = none := He.free_ok X G (c.d.fact 31 (f := .free "sorted") rfl)
  have g_str : mg "str" = none := He.free_ok X G (c.d.fact 32 (f := .free "str") rfl)
  have g_tuple : mg "tuple" = none := He.free_ok X G (c.d.fact 33 (f := .free "tuple") rfl)
  obtain ⟨t_MOST_LETTERS, g_MOST_LETTERS⟩ := He.int_ok X G (c.d.fact 38 (f := .int "MOST_LETTERS" 3) rfl)
  obtain ⟨t_SMALL, g_SMALL⟩ := He.str_ok X G (c.d.fact 39 (f := .str "SMALL" (Str.ofString "abcdefghijklmnopqrstuvwxyz")) rfl)
  have hbx := c.b
  unfold bx at hbx
  have co_Game_MOST_ROUNDS : ConOk ⟨P, w, K, fun c => some (He.ga K (Str.ofString c))⟩ "Game" "MOST_ROUNDS" (.int 3) := fun C e => by
    cases e
    obtain ⟨u, hu⟩ := He.conB_ok hbx
    exact ⟨He.cls_ok (c.d.fact 8 (f := .cls "Game") rfl), _, u, hu, fun G => .int _⟩
  have fl_Game_letters : FldOk ⟨P, w, K, fun c => some (He.ga K (Str.ofString c))⟩ "Game" "letters" := fun C e => by
    cases e
    exact ⟨He.cls_ok (c.d.fact 8 (f := .cls "Game") rfl), He.noat_ok (c.d.fact 34 (f := .noat "Game" "letters") rfl)⟩
  have fl_Game_pairs : FldOk ⟨P, w, K, fun c => some (He.ga K (Str.ofString c))⟩ "Game" "pairs" := fun C e => by
    cases e
    exact ⟨He.cls_ok (c.d.fact 8 (f := .cls "Game") rfl), He.noat_ok (c.d.fact 35 (f := .noat "Game" "pairs") rfl)⟩
  have fl_Game_rounds : FldOk ⟨P, w, K, fun c => some (He.ga K (Str.ofString c))⟩ "Game" "rounds" := fun C e => by
    cases e
    exact ⟨He.cls_ok (c.d.fact 8 (f := .cls "Game") rfl), He.noat_ok (c.d.fact 36 (f := .noat "Game" "rounds") rfl)⟩
  have fl_Game_words : FldOk ⟨P, w, K, fun c => some (He.ga K (Str.ofString c))⟩ "Game" "words" := fun C e => by
    cases e
    exact ⟨He.cls_ok (c.d.fact 8 (f := .cls "Game") rfl), He.noat_ok (c.d.fact 37 (f := .noat "Game" "words") rfl)⟩
  have c__law_new : ∀ base, Callee ⟨P, w, K, fun c => some (He.ga K (Str.ofString c))⟩ mg base 1 "_law_new" φ__law_new [] := fun base => ⟨_, fd0, _, [], [], (ok__law_new F0 g_list), He.glo_ok X G (c.d.fact 0 (f := .glo "_law_new") rfl), F0.kp, b0, .nil, fun _ => .nil⟩
  have c__law_draw : ∀ base, Callee ⟨P, w, K, fun c => some (He.ga K (Str.ofString c))⟩ mg base 1 "_law_draw" φ__law_draw [] := fun base => ⟨_, fd1, _, [], [], (ok__law_draw F1 g_int g_len), He.glo_ok X G (c.d.fact 1 (f := .glo "_law_draw") rfl), F1.kp, b1, .nil, fun _ => .nil⟩
  have c__law_letters : ∀ base, Callee ⟨P, w, K, fun c => some (He.ga K (Str.ofString c))⟩ mg base 2 "_law_letters" φ__law_letters [] := fun base => ⟨_, fd2, _, [], [], (ok__law_letters F2 g_range (c__law_draw base)), He.glo_ok X G (c.d.fact 2 (f := .glo "_law_letters") rfl), F2.kp, b2, .nil, fun _ => .nil⟩
  have c__law_alphabet : ∀ base, Callee ⟨P, w, K, fun c => some (He.ga K (Str.ofString c))⟩ mg base 2 "_law_alphabet" φ__law_alphabet [] := fun base => ⟨_, fd3, _, [], [], (ok__law_alphabet F3 g_range (c__law_draw base)), He.glo_ok X G (c.d.fact 3 (f := .glo "_law_alphabet") rfl), F3.kp, b3, .nil, fun _ => .nil⟩
  have c__law_word : ∀ base, Callee ⟨P, w, K, fun c => some (He.ga K (Str.ofString c))⟩ mg base 2 "_law_word" φ__law_word [] := fun base => ⟨_, fd4, _, [], [], (ok__law_word F4 g_len g_range (c__law_draw base)), He.glo_ok X G (c.d.fact 4 (f := .glo "_law_word") rfl), F4.kp, b4, .nil, fun _ => .nil⟩
  have c_letter_at : ∀ base, Callee ⟨P, w, K, fun c => some (He.ga K (Str.ofString c))⟩ mg base 1 "letter_at" φ_letter_at [] := fun base => ⟨_, fd5, _, [], [], (ok_letter_at F5 ), He.glo_ok X G (c.d.fact 5 (f := .glo "letter_at") rfl), F5.kp, b5, .nil, fun _ => .nil⟩
  have c_plain_kind : ∀ base, Callee ⟨P, w, K, fun c => some (He.ga K (Str.ofString c))⟩ mg base 2 "plain_kind" φ_plain_kind [] := fun base => ⟨_, fd6, _, [], [], (ok_plain_kind F6 g_int g_tuple (c_letter_at base)), He.glo_ok X G (c.d.fact 6 (f := .glo "plain_kind") rfl), F6.kp, b6, .nil, fun _ => .nil⟩
  have c_kind_number : ∀ base, Callee ⟨P, w, K, fun c => some (He.ga K (Str.ofString c))⟩ mg base 7 "kind_number" φ_kind_number [] := fun base => ⟨_, fd7, _, [], [], (okN_kind_number F7 (He.glo_ok X G (c.d.fact 7 (f := .glo "kind_number") rfl)) b7 g_len g_range g_set g_sorted g_tuple (c_plain_kind base) 4), He.glo_ok X G (c.d.fact 7 (f := .glo "kind_number") rfl), F7.kp, b7, .nil, fun _ => .nil⟩
  have c_Game_wins : ∀ base, MCallee ⟨P, w, K, fun c => some (He.ga K (Str.ofString c))⟩ mg base 8 "Game" "wins" φ_Game_wins [] := fun base => ⟨_, _, fd8, _, [], [], rfl, He.cls_ok (c.d.fact 8 (f := .cls "Game") rfl), He.meth_ok (c.d.fact 9 (f := .meth "Game" "wins") rfl), (ok_Game_wins F8 g_len g_tuple (c_kind_number base) fl_Game_pairs fl_Game_rounds fl_Game_words), b8, .nil, fun _ => .nil⟩
  have c_check_letters : ∀ base, Callee ⟨P, w, K, fun c => some (He.ga K (Str.ofString c))⟩ mg base 1 "check_letters" φ_check_letters [] := fun base => ⟨_, fd9, _, [], [], (ok_check_letters F9 g_len g_MOST_LETTERS g_SMALL), He.glo_ok X G (c.d.fact 10 (f := .glo "check_letters") rfl), F9.kp, b9, .nil, fun _ => .nil⟩
  have c_check_word : ∀ base, Callee ⟨P, w, K, fun c => some (He.ga K (Str.ofString c))⟩ mg base 1 "check_word" φ_check_word [] := fun base => ⟨_, fd10, _, [], [], (ok_check_word F10 g_enumerate), He.glo_ok X G (c.d.fact 11 (f := .glo "check_word") rfl), F10.kp, b10, .nil, fun _ => .nil⟩
  have c_Game___init__ : ∀ base, Maker ⟨P, w, K, fun c => some (He.ga K (Str.ofString c))⟩ mg base 2 "Game" φ_Game___init__ [] := fun base => ⟨_, _, fd11, _, [], [], rfl, He.mkr_ok (c.d.fact 12 (f := .mkr "Game") rfl), He.glo_ok X G (c.d.fact 13 (f := .glo "Game") rfl), (ok_Game___init__ F11 (c_check_letters base) (c_check_word base) co_Game_MOST_ROUNDS fl_Game_letters fl_Game_pairs fl_Game_rounds fl_Game_words), b11, .nil, fun _ => .nil⟩
  have c_alike : ∀ base, Callee ⟨P, w, K, fun c => some (He.ga K (Str.ofString c))⟩ mg base 9 "alike" φ_alike [] := fun base => ⟨_, fd12, _, [], [], (ok_alike F12 (c_Game___init__ base) (c_Game_wins base)), He.glo_ok X G (c.d.fact 14 (f := .glo "alike") rfl), F12.kp, b12, .nil, fun _ => .nil⟩
  have c__law_turned : ∀ base, Callee ⟨P, w, K, fun c => some (He.ga K (Str.ofString c))⟩ mg base 1 "_law_turned" φ__law_turned [] := fun base => ⟨_, fd13, _, [], [], (ok__law_turned F13 ), He.glo_ok X G (c.d.fact 15 (f := .glo "_law_turned") rfl), F13.kp, b13, .nil, fun _ => .nil⟩
  have c__law_same : ∀ base, Callee ⟨P, w, K, fun c => some (He.ga K (Str.ofString c))⟩ mg base 5 "_law_same" φ__law_same [] := fun base => ⟨_, fd14, _, [], [], (okN__law_same F14 (He.glo_ok X G (c.d.fact 16 (f := .glo "_law_same") rfl)) b14 g_bool g_int g_isinstance g_len g_list g_range g_str g_tuple 4), He.glo_ok X G (c.d.fact 16 (f := .glo "_law_same") rfl), F14.kp, b14, .nil, fun _ => .nil⟩
  have c__law_exchanged : ∀ base, Callee ⟨P, w, K, fun c => some (He.ga K (Str.ofString c))⟩ mg base 1 "_law_exchanged" φ__law_exchanged [] := fun base => ⟨_, fd15, _, [], [], (ok__law_exchanged F15 ), He.glo_ok X G (c.d.fact 17 (f := .glo "_law_exchanged") rfl), F15.kp, b15, .nil, fun _ => .nil⟩
  have c__law_related : ∀ base, Callee ⟨P, w, K, fun c => some (He.ga K (Str.ofString c))⟩ mg base 10 "_law_related" φ__law_related [] := fun base => ⟨_, fd16, _, [], [], (ok__law_related F16 (c__law_exchanged base) (c__law_same base) (c__law_turned base) (c_alike base)), He.glo_ok X G (c.d.fact 18 (f := .glo "_law_related") rfl), F16.kp, b16, .nil, fun _ => .nil⟩
  have c__law_loops : ∀ base, Callee ⟨P, w, K, fun c => some (He.ga K (Str.ofString c))⟩ mg base 10 "_law_loops" φ__law_loops [] := fun base => ⟨_, fd17, _, [], [], (ok__law_loops F17 g_len (c__law_draw base) (c__law_same base) (c__law_word base) (c_alike base)), He.glo_ok X G (c.d.fact 19 (f := .glo "_law_loops") rfl), F17.kp, b17, .nil, fun _ => .nil⟩
  have c__law_numbers : ∀ base, Callee ⟨P, w, K, fun c => some (He.ga K (Str.ofString c))⟩ mg base 10 "_law_numbers" φ__law_numbers [] := fun base => ⟨_, fd18, _, [], [], (ok__law_numbers F18 g_len g_max (c__law_draw base) (c__law_same base) (c_alike base)), He.glo_ok X G (c.d.fact 20 (f := .glo "_law_numbers") rfl), F18.kp, b18, .nil, fun _ => .nil⟩
  have e := hfa.symm.trans (He.glo_ok X G (c.d.fact 21 (f := .glo "law") rfl))
  cases e
  have b := FunD.bindsA (ps := ["script"]) F19 fun _ _ _ _ _ _ us hl => match us, hl with | [_], _ => rfl
  exact ⟨fd19, fun s v => b s [v] rfl, fun base _ _ => FnOk.cx0 (ok_law (S := ⟨P, w, K, fun c => some (He.ga K (Str.ofString c))⟩) F19 g_len g_range (c__law_alphabet base) (c__law_draw base) (c__law_letters base) (c__law_loops base) (c__law_new base) (c__law_numbers base) (c__law_related base) (c__law_same base) (c__law_word base) (c_alike base))⟩
end Law_k86
open PySem PySem.W PySem.Calls PyProof.Rows
theorem PySem.Challenge.cw_nevercounts_k86_whole_games_keep_joining_holds : PySem.Challenge.rw_nevercounts_k86_whole_games_keep_joining.Holds := by
  w_on; o_law
  refine HandSHeadRun.head_any (r := OpenLaw.row PySem.Challenge.rw_nevercounts_k86_whole_games_keep_joining) (q := view (OpenLaw.row PySem.Challenge.rw_nevercounts_k86_whole_games_keep_joining).prog [29]) (H := Law_k86.hk) (ob := Law_k86.ob) (M := 3000) (loose := Law_k86.loose) (d := HandSHeadRun.topDef (OpenLaw.row PySem.Challenge.rw_nevercounts_k86_whole_games_keep_joining).prog 29) (kwd := []) Law_k86.ob_eq
    (by kernel_rfl) (fun s => by kernel_rfl) Law_k86.run (by kernel_rfl) (by kernel_rfl) (by kernel_rfl) (by rfl) (by first | assumption | decide +kernel) (by decide +kernel) ⟨rfl, rfl, rfl, rfl, rfl, by decide +kernel⟩ ?hw ?hc
  case hw => w_witness2
  case hc =>
    refine L2.walk_ofE (l := PySem.Challenge.rw_nevercounts_k86_whole_games_keep_joining) (n := 63) (k := 11) (x := "script") (CX := L2.CX0) rfl (by decide) (by kernel_rfl) ⟨rfl, by decide, by decide⟩ ?F (fun _ _ _ _ z => z)
    intro w mg fa h Y G hmg0
    obtain ⟨K, KX, c⟩ := Y
    have hmg : mg ("law" : PySem.Str) = some (.ref fa) := by
      have e : (HandSHeadRun.topDef (OpenLaw.row PySem.Challenge.rw_nevercounts_k86_whole_games_keep_joining).prog 29).name = ("law" : PySem.Str) := by kernel_rfl
      rw [← e]
      exact hmg0
    obtain ⟨fd, hb, hF⟩ := Law_k86.facts (P := (PySem.Challenge.rw_nevercounts_k86_whole_games_keep_joining).prog) (w := w) KX G hmg c
    exact ⟨K, fd, fun vs H Q _ => PS.spOf ⟨(PySem.Challenge.rw_nevercounts_k86_whole_games_keep_joining).prog, w, K, fun c => some (He.ga K (Str.ofString c))⟩ PW.φ_law vs H Q fun _ _ _ => False, KX, hb, fun H a ns hl hO hS => PS.law_start hS PW.law_plain, hF⟩
end
