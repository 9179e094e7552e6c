import PyProof.Rows.All
import Wide.All
import OpenK.AllK
import Wide.FinOn
import HandS.Head0
import HandS.Head1
import HandS.Head2
import HandS.Head3
import HandS.HeadEnd
import HandS.HeadHook1
import HandS.HeadHook2
import HandS.Words
import KE.SortData
import KE.KeyNested
import PyProof.EqLayable
import PyProof.Fits
import HandS.ForMost
import HandS.Exc
import HandS.ExcOwn
import HandS.CallSlots
import HandS.TupAny
import HandS.Wide
import HandS.Gcd
import HandS.Style
import HandS.Zip
import HandS.IsInst
import HandS.Conv
import KE.KDictKeyed
import HandS.TupMul
import HandS.Deep
import HandS.Text
import HandS.Iter
import HandS.Comp
import HandS.DictComp
import HandS.Defaults
import HandS.WordsExc
import HandS.TupLen
import HandS.Small
import KE.GoesMore
import KE.GoesEnum
import KE.KDictCopyH
import HandS.SetFor
import HandS.Strs
import HandS.Ends
import KE.KStateDown
import PySem.Challenge.RW_hangtogether_k81_whole_ends_of_talks
section
set_option autoImplicit false
set_option linter.all false
set_option maxRecDepth 100000
set_option Elab.async false
/-! EvHook: what is looked at of a module behind its top. -/
namespace EV
open PySem PySem.Spec
open PyProof.Rows
open L2
/-! ### what is looked at -/
abbrev AlX : Type := Bool × He.AlD
def obsX (ex : PySem.W.Frag → Bool) (fa : List He.Fa) (fn : List He.DefD) (K : PySem.W.Frag) : AlX := (ex K, He.obsD fa fn K)
def atG (n : Nat) (ex : PySem.W.Frag → Bool) (fa : List He.Fa) (fn : List He.DefD) (g : Addr → Option Obj) : AlX := obsX ex fa fn (He.frG g (He.asD g n))
def SaysX (ex : PySem.W.Frag → Bool) (fa : List He.Fa) (fn : List He.DefD) (K : PySem.W.Frag) : Prop := obsX ex fa fn K = (true, He.valD fn)
def hookX (n : Nat) (ex : PySem.W.Frag → Bool) (fa : List He.Fa) (fn : List He.DefD) : PySem.W.Hook where
  α := AlX
  obs := fun s => atG n ex fa fn s.heap.get?
  val := fun _ => (true, He.valD fn)
  says := fun _ h => ∃ K : PySem.W.Frag, K.In h ∧ SaysX ex fa fn K
  of := fun _ _ e => ⟨_, He.frG_in, e⟩
  keeps := fun _ _ _ ⟨K, hK, c⟩ k => ⟨K, PySem.W.Frag.In.keeps hK k, c⟩
theorem atG_eq {n : Nat} {ex : PySem.W.Frag → Bool} {fa : List He.Fa} {fn : List He.DefD} {g : Addr → Option Obj} {s : Shared} (h : ∀ a, g a = s.heap.get? a) : atG n ex fa fn g = (hookX n ex fa fn).obs s := by
  have e : g = s.heap.get? := funext h
  rw [e]; rfl
/-- a def as the text has it -/
def mkD (x : Str) (st : Stmt) : He.DefD := ⟨(x, none), x, x, defArgs st, defBody st, defScope st, [], []⟩
/-- two whole numbers -/
def two (a b : Int) : List He.Dv := [.int a, .int b]
/-- a name of the module that is a built-in function -/
def bltB (K : PySem.W.Frag) (x : Str) (id : String) : Bool := He.eqO (PySem.W.nsIn K mainGlobals x) (some (some (.builtin id)))
end EV
end

section
set_option autoImplicit false
set_option linter.all false
set_option maxRecDepth 100000
set_option maxHeartbeats 0
set_option Elab.async false
/-! HdA81: the top of the law's text, run. -/
namespace EV.Sp
open PySem
open PySem.Spec L2
abbrev RID : PySem.W.OpenRow := PySem.W.OpenLaw.row PySem.Challenge.rw_hangtogether_k81_whole_ends_of_talks
def fa0 : List He.Fa := [.glo "_law_is_truth", .glo "_law_same", .glo "rows_of", .glo "drawn_rows", .glo "lowest", .glo "over", .glo "plus", .glo "total", .glo "part_of", .glo "likely_at", .glo "told_once", .glo "talked", .glo "is_whole", .glo "is_row", .glo "is_event", .glo "need_event", .glo "are_speakers", .glo "is_ratio", .glo "is_chance", .glo "row_count", .glo "are_row_keys", .glo "are_levels", .glo "is_sizes", .glo "is_table", .glo "need_table", .glo "need_talk", .glo "talk_lots", .glo "need_drawn", .glo "talk", .glo "left_open"]
def fa1 : List He.Fa := [.glo "_law_rows_of", .glo "_law_known_right", .glo "_law_blended", .glo "_law_draw", .glo "_law_shuffled", .glo "_law_all_sequences", .glo "chance_of", .glo "given", .glo "behind", .glo "_law_q", .glo "_law_minus", .glo "_law_row_right", .glo "_law_sm_event", .glo "_law_pick", .glo "_law_plus", .glo "_law_times", .glo "_law_blend", .glo "_law_free", .glo "_law_raised", .glo "_law_levels", .glo "_law_table", .glo "_law_sizes", .glo "_law_begun", .glo "law", .glo "ONE", .glo "ZERO", .int "MOST_LEVELS" 4, .int "MOST_ROWS" 36, .int "MOST_THINGS" 4]
def bltins : List Str := ["abs", "all", "any", "bool", "dict", "int", "isinstance", "len", "list", "max", "min", "range", "set", "sorted", "str", "sum", "tuple", "zip"]
def ix_law_is_truth : Nat := 53
def ix_law_same : Nat := 54
def ix_rows_of : Nat := 25
def ix_drawn_rows : Nat := 40
def ix_lowest : Nat := 14
def ix_over : Nat := 16
def ix_plus : Nat := 15
def ix_total : Nat := 17
def ix_part_of : Nat := 32
def ix_likely_at : Nat := 41
def ix_told_once : Nat := 42
def ix_talked : Nat := 43
def ix_is_whole : Nat := 11
def ix_is_row : Nat := 26
def ix_is_event : Nat := 30
def ix_need_event : Nat := 31
def ix_are_speakers : Nat := 37
def ix_is_ratio : Nat := 12
def ix_is_chance : Nat := 13
def ix_row_count : Nat := 23
def ix_are_row_keys : Nat := 27
def ix_are_levels : Nat := 22
def ix_is_sizes : Nat := 24
def ix_is_table : Nat := 28
def ix_need_table : Nat := 29
def ix_need_talk : Nat := 38
def ix_talk_lots : Nat := 46
def ix_need_drawn : Nat := 39
def ix_talk : Nat := 44
def ix_left_open : Nat := 45
def ix_law_rows_of : Nat := 60
def ix_law_known_right : Nat := 69
def ix_law_blended : Nat := 49
def ix_law_draw : Nat := 50
def ix_law_shuffled : Nat := 52
def ix_law_all_sequences : Nat := 67
def ix_chance_of : Nat := 33
def ix_given : Nat := 34
def ix_behind : Nat := 35
def ix_law_q : Nat := 55
def ix_law_minus : Nat := 57
def ix_law_row_right : Nat := 68
def ix_law_sm_event : Nat := 66
def ix_law_pick : Nat := 51
def ix_law_plus : Nat := 56
def ix_law_times : Nat := 58
def ix_law_blend : Nat := 63
def ix_law_free : Nat := 62
def ix_law_raised : Nat := 64
def ix_law_levels : Nat := 61
def ix_law_table : Nat := 65
def ix_law_sizes : Nat := 59
def ix_law_begun : Nat := 48
def ix_law : Nat := 70
def topx (p : PySem.Program) (i : Nat) : Stmt := p.main.body.getD i (.Pass ⟨0, 0, 0, 0⟩)
abbrev PROG : PySem.Program := PySem.Challenge.pw_hangtogether_k81_whole_ends_of_talks
def faAll : List He.Fa := bltins.map He.Fa.free ++ (fa0 ++ fa1)
def fn0 : List He.DefD := [mkD "_law_is_truth" (topx PROG ix_law_is_truth), mkD "_law_same" (topx PROG ix_law_same), mkD "rows_of" (topx PROG ix_rows_of), mkD "drawn_rows" (topx PROG ix_drawn_rows), mkD "lowest" (topx PROG ix_lowest), mkD "over" (topx PROG ix_over), mkD "plus" (topx PROG ix_plus), mkD "total" (topx PROG ix_total), mkD "part_of" (topx PROG ix_part_of), mkD "likely_at" (topx PROG ix_likely_at), mkD "told_once" (topx PROG ix_told_once), mkD "talked" (topx PROG ix_talked), mkD "is_whole" (topx PROG ix_is_whole), mkD "is_row" (topx PROG ix_is_row), mkD "is_event" (topx PROG ix_is_event), mkD "need_event" (topx PROG ix_need_event), mkD "are_speakers" (topx PROG ix_are_speakers), mkD "is_ratio" (topx PROG ix_is_ratio), mkD "is_chance" (topx PROG ix_is_chance), mkD "row_count" (topx PROG ix_row_count), mkD "are_row_keys" (topx PROG ix_are_row_keys), mkD "are_levels" (topx PROG ix_are_levels), mkD "is_sizes" (topx PROG ix_is_sizes), mkD "is_table" (topx PROG ix_is_table), mkD "need_table" (topx PROG ix_need_table), mkD "need_talk" (topx PROG ix_need_talk), mkD "talk_lots" (topx PROG ix_talk_lots), mkD "need_drawn" (topx PROG ix_need_drawn), mkD "talk" (topx PROG ix_talk), mkD "left_open" (topx PROG ix_left_open)]
def fn1 : List He.DefD := [mkD "_law_rows_of" (topx PROG ix_law_rows_of), mkD "_law_known_right" (topx PROG ix_law_known_right), mkD "_law_blended" (topx PROG ix_law_blended), mkD "_law_draw" (topx PROG ix_law_draw), mkD "_law_shuffled" (topx PROG ix_law_shuffled), mkD "_law_all_sequences" (topx PROG ix_law_all_sequences), mkD "chance_of" (topx PROG ix_chance_of), mkD "given" (topx PROG ix_given), mkD "behind" (topx PROG ix_behind), mkD "_law_q" (topx PROG ix_law_q), mkD "_law_minus" (topx PROG ix_law_minus), mkD "_law_row_right" (topx PROG ix_law_row_right), mkD "_law_sm_event" (topx PROG ix_law_sm_event), mkD "_law_pick" (topx PROG ix_law_pick), mkD "_law_plus" (topx PROG ix_law_plus), mkD "_law_times" (topx PROG ix_law_times), mkD "_law_blend" (topx PROG ix_law_blend), mkD "_law_free" (topx PROG ix_law_free), mkD "_law_raised" (topx PROG ix_law_raised), mkD "_law_levels" (topx PROG ix_law_levels), mkD "_law_table" (topx PROG ix_law_table), mkD "_law_sizes" (topx PROG ix_law_sizes), mkD "_law_begun" (topx PROG ix_law_begun), mkD "law" (topx PROG ix_law)]
def fnAll : List He.DefD := fn0 ++ fn1
def exAll (K : PySem.W.Frag) : Bool := bltB K "gcd" "math.gcd" && He.tupB K "ONE" (two 1 1) && He.tupB K "ZERO" (two 0 1)
def loose0 : List Str := ["TogetherError", "BadTable", "BadEvent", "BadRow", "Never", "BadSpeakers", "ZERO", "ONE", "is_whole", "is_ratio", "is_chance", "lowest", "plus", "over", "total", "MOST_THINGS", "MOST_LEVELS", "MOST_ROWS", "are_levels", "row_count", "is_sizes", "rows_of", "is_row", "are_row_keys", "is_table", "need_table", "is_event", "need_event", "part_of", "chance_of"]
def loose1 : List Str := ["given", "behind", "are_speakers", "need_talk", "need_drawn", "drawn_rows", "likely_at", "told_once", "talked", "talk", "left_open", "talk_lots", "_law_begun", "_law_blended", "_law_draw", "_law_pick", "_law_shuffled", "_law_is_truth", "_law_same", "_law_q", "_law_plus", "_law_minus", "_law_times", "_law_sizes", "_law_rows_of", "_law_levels", "_law_free", "_law_blend", "_law_raised", "_law_table"]
def loose2 : List Str := ["_law_sm_event", "_law_all_sequences", "_law_row_right", "_law_known_right"]
abbrev looseAll : List Str := loose0 ++ loose1 ++ loose2
abbrev hk : PySem.W.Hook := hookX 4 exAll faAll fnAll
def ob (s : PySem.W.SharedT) : AlX := atG 4 exAll faAll fnAll (HandSHeadRun.getT s)
theorem ob_eq (s : PySem.W.SharedT) : ob s = hk.obs s.abs := atG_eq (HandSHeadRun.getT_eq s)
theorem run (w : World) : HandSHeadRun.RunEqI RID (PySem.W.view RID.prog [0, 70]) hk ob 20000 looseAll w := by
  unfold HandSHeadRun.RunEqI
  kernel_rfl
end EV.Sp
end

section
set_option autoImplicit false
set_option maxRecDepth 100000
/-! EvBase: a small language EV for the part of Python that the laws use: values, a store, terms, what they give. -/
namespace EV
open PySem

/-! ### values -/
abbrev Dt := PyData
/-- a value: data; an object of the store that may still change; an error of the program's own; a def of the module -/
inductive Val where
  | d (x : Dt)
  | ref (n : Nat)
  | err (c : Str) (fs : List (Str × Dt))
  | fn (x : Str)
/-- an object of the store -/
inductive Cell where
  | lst (xs : List Dt)
  | dct (kvs : List (Dt × Dt))
  | lsv (xs : List Val)
  | dcv (kvs : List (Str × Val))
  | fz (x : Dt)
  | kl (xs : List Dt)
abbrev Sto := List Cell
abbrev Env := List (Option Val)

inductive Res (α : Type) where
  | ok (a : α) (st : Sto)
  | err (e : Val) (st : Sto)
  | bad
abbrev M (α : Type) := Sto → Res α
def ret {α : Type} (a : α) : M α := fun st => .ok a st
def bad {α : Type} : M α := fun _ => .bad
def bnd {α β : Type} (m : M α) (f : α → M β) : M β := fun st =>
  match m st with
  | .ok a st' => f a st'
  | .err e st' => .err e st'
  | .bad => .bad
def opt {α : Type} (o : Option α) : M α := fun st =>
  match o with
  | some a => .ok a st
  | none => .bad
/-- no error may leave -/
def shut {α : Type} (m : M α) : M α := fun st =>
  match m st with
  | .ok a st' => .ok a st'
  | _ => .bad

/-! ### data of a value -/
def Cell.dat : Cell → Option Dt
  | .lst xs => some (.list xs)
  | .dct kvs => some (.dict kvs)
  | .fz x => some x
  | .kl xs => some (.list xs)
  | _ => none
/-- but no list of the written part -/
def Cell.dat2 : Cell → Option Dt
  | .kl _ => none
  | c => c.dat
def Cell.live : Cell → Bool
  | .fz _ => false
  | .kl _ => false
  | _ => true
/-- no object of n or above within -/
def Val.below (n : Nat) : Val → Prop
  | .ref m => m < n
  | _ => True
def Cell.below (n : Nat) : Cell → Prop
  | .lsv xs => ∀ v ∈ xs, v.below n
  | .dcv kvs => ∀ p ∈ kvs, p.2.below n
  | _ => True
/-- what a value reads as -/
def look (st : Sto) : Val → Option Dt
  | .d x => some x
  | .ref n => (st[n]?).bind Cell.dat
  | _ => none
/-- what a value reads as, no list of the written part -/
def look2 (st : Sto) : Val → Option Dt
  | .d x => some x
  | .ref n => (st[n]?).bind Cell.dat2
  | _ => none
/-- a value that is data -/
def toD : Val → Option Dt
  | .d x => some x
  | _ => none
/-- as data -/
def dat (v : Val) : M Dt := fun st =>
  match look st v with
  | some x => .ok x st
  | none => .bad
def dat2 (v : Val) : M Dt := fun st =>
  match look2 st v with
  | some x => .ok x st
  | none => .bad
def pureD (v : Val) : M Dt := opt (toD v)
/-- a new object -/
def alloc (c : Cell) : M Val := fun st => .ok (.ref st.length) (st ++ [c])
/-- from now on data -/
def freeze (v : Val) : M Val := fun st =>
  match v with
  | .ref n => (match (st[n]?).bind Cell.dat2 with
    | some x => .ok (.d x) (st.set n (.fz x))
    | none => .bad)
  | v => .ok v st
/-- m = 0: data; 1: an object of the store -/
def fresh (m : Nat) (x : Dt) : M Val := fun st =>
  match m, x with
  | 0, x => .ok (.d x) st
  | _, .list xs => .ok (.ref st.length) (st ++ [.lst xs])
  | _, .dict kvs => .ok (.ref st.length) (st ++ [.dct kvs])
  | _, _ => .bad

/-! ### keys -/
mutual
def nk : Dt → Option NestedKey
  | .none => some .none
  | .bool b => some (.num (if b = true then 1 else 0))
  | .int i => some (.num i)
  | .str x => some (.text x)
  | .tuple xs => (nks xs).map .tup
  | .list _ => none
  | .dict _ => none
def nks : List Dt → Option (List NestedKey)
  | [] => some []
  | x :: xs => (nk x).bind fun k => (nks xs).map fun ks => k :: ks
end
def tupKey (k : Dt) : Bool := match k with
  | .tuple xs => (match nks xs with
    | some ks => decide (NestedKey.depthAll ks + 1 ≤ 8)
    | none => false)
  | _ => false
def flatKey : Dt → Bool
  | .int _ => true
  | .str _ => true
  | _ => false
/-- may k be asked of a dict of these -/
def keyFor (kvs : List (Dt × Dt)) (k : Dt) : Bool := match kvs with
  | [] => tupKey k || flatKey k
  | p :: _ => (tupKey p.1 && tupKey k) || (flatKey p.1 && flatKey k)
def dget (kvs : List (Dt × Dt)) (k : Dt) : Option Dt := (kvs.find? fun p => PyData.eqv p.1 k).map (·.2)
def dhas (kvs : List (Dt × Dt)) (k : Dt) : Bool := (dget kvs k).isSome
def dput (kvs : List (Dt × Dt)) (k v : Dt) : List (Dt × Dt) :=
  if dhas kvs k then kvs.map fun p => if PyData.eqv p.1 k then (p.1, v) else p else kvs ++ [(k, v)]
def ddel (kvs : List (Dt × Dt)) (k : Dt) : List (Dt × Dt) := kvs.filter fun p => !PyData.eqv p.1 k
/-- a dict's put, where it may be done -/
def dputs (kvs : List (Dt × Dt)) (k v : Dt) : Option (List (Dt × Dt)) := if keyFor kvs k && decide (kvs.length < sizeLine) then some (dput kvs k v) else none
def dputAll : List (Dt × Dt) → List (Dt × Dt) → Option (List (Dt × Dt))
  | kvs, [] => some kvs
  | kvs, (k, v) :: r => (dputs kvs k v).bind fun kvs' => dputAll kvs' r

/-! ### operators on data -/
def mulOk (a b : Int) : Bool := !(decide (Builtin.Int.intBits a > shortFactorBits) && decide (Builtin.Int.intBits b > shortFactorBits) && Builtin.Int.intTooBig (Builtin.Int.intBits a + Builtin.Int.intBits b))
def fits (n : Nat) : Bool := decide (n ≤ sizeLine)
def repS (n : Nat) (s : Str) : Str := ⟨(List.replicate n s.cps.toList).flatten.toArray⟩
def binD (o : Operator) (x y : Dt) : Option Dt := match o, x, y with
  | .Add, .int i, .int j => some (.int (i + j))
  | .Add, .str a, .str b => if fits (a.length + b.length) then some (.str (a ++ b)) else none
  | .Add, .tuple a, .tuple b => if fits (a.length + b.length) then some (.tuple (a ++ b)) else none
  | .Add, .list a, .list b => if fits (a.length + b.length) then some (.list (a ++ b)) else none
  | .Sub, .int i, .int j => some (.int (i - j))
  | .Mult, .int i, .int j => if mulOk i j then some (.int (i * j)) else none
  | .Mult, .tuple a, .int j => if decide (a ≠ []) && decide (2 ≤ j) && decide (j ≤ 1000) && decide (a.length ≤ 1000) then some (.tuple (List.replicate j.toNat a).flatten) else if j = 1 then some (.tuple a) else none
  | .Mult, .list a, .int j => if decide (-(2 ^ 63) ≤ j) && decide (j < 2 ^ 63) && fits (a.length * j.toNat) then some (.list (List.replicate j.toNat a).flatten) else none
  | .Mult, .str a, .int j => if decide (0 ≤ j) && decide (j ≤ 1000) && decide (a.length ≤ 1000) then some (.str (repS j.toNat a)) else none
  | .FloorDiv, .int i, .int j => if decide (j ≠ 0) && !Builtin.divisionGoesByPylong i j then some (.int (i.fdiv j)) else none
  | .Mod, .int i, .int j => if j = 0 then none else some (.int (i.fmod j))
  | .Pow, .int i, .int j => if decide (0 ≤ j) && decide (j ≤ 1000000) && decide (i.natAbs < 2 ^ 64) then some (.int (i ^ j.toNat)) else none
  | _, _, _ => none
def negD : Dt → Option Dt
  | .int i => some (.int (-i))
  | _ => none
def boolD : Dt → Option Bool
  | .bool b => some b
  | _ => none
/-- x in xs -/
def memD (x : Dt) (xs : List Dt) : Bool := xs.any fun y => PyData.eqv y x
def shaped (x : Dt) : Bool := SeqAt.shaped x
def eqD (x y : Dt) : Option Bool := if shaped x && shaped y then some (PyData.eqv x y) else none
def intsOf : List Dt → Option (List Int)
  | [] => some []
  | .int i :: r => (intsOf r).map (i :: ·)
  | _ :: _ => none
def boolsOf : List Dt → Option (List Bool)
  | [] => some []
  | .bool i :: r => (boolsOf r).map (i :: ·)
  | _ :: _ => none
def strsOf : List Dt → Option (List Str)
  | [] => some []
  | .str i :: r => (strsOf r).map (i :: ·)
  | _ :: _ => none
def lexI : List Int → List Int → Bool
  | [], [] => false
  | [], _ :: _ => true
  | _ :: _, [] => false
  | x :: xs, y :: ys => if x = y then lexI xs ys else decide (x < y)
def ltD (x y : Dt) : Option Bool := match x, y with
  | .int i, .int j => some (decide (i < j))
  | .tuple a, .tuple b => (match intsOf a, intsOf b with
    | some ns, some ms => some (lexI ns ms)
    | _, _ => none)
  | _, _ => none
def isNone : Dt → Bool
  | .none => true
  | _ => false
def cmpD (o : CmpOp) (x y : Dt) : Option Bool := match o, x, y with
  | .Eq, x, y => eqD x y
  | .NotEq, x, y => (eqD x y).map not
  | .Lt, x, y => ltD x y
  | .LtE, .int i, .int j => some (decide (i ≤ j))
  | .Gt, .int i, .int j => some (decide (j < i))
  | .GtE, .int i, .int j => some (decide (j ≤ i))
  | .Is, x, .none => some (isNone x)
  | .IsNot, x, .none => some (!isNone x)
  | .Is, .bool c, .bool b => some (decide (c = b))
  | .IsNot, .bool c, .bool b => some (!decide (c = b))
  | .In, x, .list ys => if shaped x && shaped (.list ys) then some (memD x ys) else none
  | .In, x, .tuple ys => if shaped x && shaped (.tuple ys) then some (memD x ys) else none
  | .NotIn, x, .list ys => if shaped x && shaped (.list ys) then some (!memD x ys) else none
  | .NotIn, x, .tuple ys => if shaped x && shaped (.tuple ys) then some (!memD x ys) else none
  | .In, x, .dict kvs => if keyFor kvs x then some (dhas kvs x) else none
  | .NotIn, x, .dict kvs => if keyFor kvs x then some (!dhas kvs x) else none
  | .In, .str x, .str y => some (!(Builtin.Str.occurrences y x 0 y.length 1).isEmpty)
  | .NotIn, .str x, .str y => some (Builtin.Str.occurrences y x 0 y.length 1).isEmpty
  | _, _, _ => none
/-- a place counted from either end -/
def ixOf (n : Nat) (i : Int) : Option Nat := if 0 ≤ i then (if i < n then some i.toNat else none) else if -(n : Int) ≤ i then some (i + n).toNat else none
def at? {α : Type} (xs : List α) (i : Int) : Option α := (ixOf xs.length i).bind fun j => xs[j]?
def idxD (x y : Dt) : Option Dt := match x, y with
  | .tuple xs, .int i => at? xs i
  | .list xs, .int i => at? xs i
  | .str s, .int i => if fits s.length then (at? s.cps.toList i).map fun c => .str ⟨#[c]⟩ else none
  | .dict kvs, k => if keyFor kvs k then dget kvs k else none
  | _, _ => none
/-- a slice's bound -/
def cutIx (n d : Nat) : Option Int → Nat
  | none => d
  | some v => if v < 0 then (v + (n : Int)).toNat else min v.toNat n
def cut {α : Type} (xs : List α) (lo hi : Option Int) : List α := (xs.drop (cutIx xs.length 0 lo)).take (cutIx xs.length xs.length hi - cutIx xs.length 0 lo)
def sliD (x : Dt) (lo hi : Option Int) : Option Dt := match x with
  | .tuple xs => some (.tuple (cut xs lo hi))
  | .list xs => some (.list (cut xs lo hi))
  | .str s => if fits s.length then some (.str ⟨(cut s.cps.toList lo hi).toArray⟩) else none
  | _ => none
def revD : Dt → Option Dt
  | .list xs => some (.list xs.reverse)
  | _ => none
/-- all of one kind, place by place -/
def allAlike (xs : List Dt) : Bool := xs.all fun x => xs.all fun y => W.alike x y
def sortable (xs : List Dt) : Bool := (xs.all fun x => match x with | .tuple (_ :: _) => true | _ => false) || (xs.all fun x => match x with | .none => false | .tuple _ => false | _ => true)
def sortD (xs : List Dt) : Option (List Dt) := if allAlike xs && sortable xs && xs.all (fun x => x.canLay0 && decide (x.depth ≤ 60)) then some (xs.mergeSort (W.dataLe false id)) else none
/-- each once, the first that comes -/
def onceD : List Dt → List Dt
  | [] => []
  | x :: xs => x :: (onceD xs).filter fun y => !PyData.eqv y x
/-- the signs of a text -/
def signs (s : Str) : List Dt := s.cps.toList.map fun c => .str ⟨#[c]⟩
/-- what a loop goes through -/
def itemsD : Dt → Option (List Dt)
  | .list xs => some xs
  | .tuple xs => some xs
  | .dict kvs => some (kvs.map (·.1))
  | .str s => if fits s.length then some (signs s) else none
  | _ => none
def seqD : Dt → Option (List Dt)
  | .list xs => some xs
  | .tuple xs => some xs
  | _ => none
def pairOf : Dt → Option (Dt × Dt)
  | .tuple [a, b] => some (a, b)
  | _ => none
def pairsOf : List Dt → Option (List (Dt × Dt))
  | [] => some []
  | x :: xs => (pairOf x).bind fun p => (pairsOf xs).map fun ps => p :: ps
inductive B1 where
  | len | all | any | sum | abs | int | list | tuple | dict | sorted | max | min | str | lenset | sortset | listvals | sumvals | sortedvals | listitems | upper
  deriving DecidableEq
def insU (x : Int) : List Int → List Int
  | [] => [x]
  | y :: r => if x < y then x :: y :: r else if x = y then y :: r else y :: insU x r
/-- each once, ascending -/
def usort (ns : List Int) : List Int := ns.foldr insU []
def greatest : List Int → Option Int
  | [] => none
  | x :: xs => some (xs.foldl (fun a b => if b > a then b else a) x)
def least : List Int → Option Int
  | [] => none
  | x :: xs => some (xs.foldl (fun a b => if b < a then b else a) x)
def b1D (f : B1) (x : Dt) : Option Dt := match f, x with
  | .len, .str s => if fits s.length then some (.int s.length) else none
  | .len, .list xs => some (.int xs.length)
  | .len, .tuple xs => some (.int xs.length)
  | .len, .dict kvs => some (.int kvs.length)
  | .all, .list xs => (boolsOf xs).map fun bs => .bool (bs.all id)
  | .any, .list xs => (boolsOf xs).map fun bs => .bool (bs.any id)
  | .sum, .list xs => (intsOf xs).map fun ns => .int ns.sum
  | .abs, .int i => some (.int (if i < 0 then -i else i))
  | .int, .int i => some (.int i)
  | .int, .bool b => some (.int (if b then 1 else 0))
  | .list, .list xs => some (.list xs)
  | .list, .tuple xs => some (.list xs)
  | .list, .dict kvs => some (.list (kvs.map (·.1)))
  | .tuple, .list xs => some (.tuple xs)
  | .tuple, .tuple xs => some (.tuple xs)
  | .dict, .list xs => ((pairsOf xs).bind fun ps => dputAll [] ps).map .dict
  | .sorted, .list xs => (sortD xs).map .list
  | .sorted, .tuple xs => (sortD xs).map .list
  | .sorted, .dict kvs => (sortD (kvs.map (·.1))).map .list
  | .max, .list xs => ((intsOf xs).bind greatest).map .int
  | .min, .list xs => ((intsOf xs).bind least).map .int
  | .lenset, .list xs => (intsOf xs).bind fun ns => if decide (ns.length ≤ 1000) then some (.int (usort ns).length) else none
  | .lenset, .tuple xs => (intsOf xs).bind fun ns => if decide (ns.length ≤ 1000) then some (.int (usort ns).length) else none
  | .sortset, .list xs => (intsOf xs).bind fun ns => if decide (ns.length < 64) then some (.list ((usort ns).map .int)) else none
  | .sortset, .tuple xs => (intsOf xs).bind fun ns => if decide (ns.length < 64) then some (.list ((usort ns).map .int)) else none
  | .listvals, .dict kvs => some (.list (kvs.map (·.2)))
  | .sumvals, .dict kvs => (intsOf (kvs.map (·.2))).map fun ns => .int ns.sum
  | .sortedvals, .dict kvs => (sortD (kvs.map (·.2))).map .list
  | .listitems, .dict kvs => some (.list (kvs.map fun p => .tuple [p.1, p.2]))
  | _, _ => none
inductive B2 where
  | min | max | gcd | lcm | get
  deriving DecidableEq
def b2D (f : B2) (x y : Dt) : Option Dt := match f, x, y with
  | .min, .int i, .int j => some (.int (if j < i then j else i))
  | .max, .int i, .int j => some (.int (if j > i then j else i))
  | .gcd, .int i, .int j => some (.int (Nat.gcd i.natAbs j.natAbs : Nat))
  | .lcm, .int i, .int j => some (.int (Nat.lcm i.natAbs j.natAbs : Nat))
  | _, _, _ => none
/-- the built-in classes of data -/
inductive Ty where
  | none | bool | int | str | list | tuple | dict
  deriving DecidableEq
def Ty.nm : Ty → String
  | .none => "NoneType" | .bool => "bool" | .int => "int" | .str => "str" | .list => "list" | .tuple => "tuple" | .dict => "dict"
def tyD : Dt → Ty
  | .none => .none
  | .bool _ => .bool
  | .int _ => .int
  | .str _ => .str
  | .list _ => .list
  | .tuple _ => .tuple
  | .dict _ => .dict
def subTy (t c : Ty) : Bool := decide (t = c) || (decide (t = .bool) && decide (c = .int))
end EV
end

section
set_option autoImplicit false
set_option maxRecDepth 100000
/-! EvSyn: the terms of EV, and what they give. -/
namespace EV
open PySem

/-- a method of a built-in object: append, extend, pop, .. -/
inductive Mt where
  | append | extend | pop | popAt | insert | clear | get2 | join | index | count | upper | split | lstrip
  deriving DecidableEq
/-- a target: a name; names -/
inductive T where
  | nm (i : Nat)
  | tp (is : List Nat)

mutual
inductive E where
  | var (i : Nat)
  | con (c : Const)
  | glb (j : Nat)
  | fun_ (j : Nat)
  | tup (es : Es)
  | lst (m : Nat) (es : Es)
  | dct (m : Nat) (kvs : Es)
  | dcv (ks : List Str) (vs : Es)
  | bin (o : Operator) (a b : E)
  | neg (a : E)
  | cmp (o : CmpOp) (a b : E)
  | chn (o1 o2 : CmpOp) (a b c : E)
  | chn3 (o1 o2 o3 : CmpOp) (a b c d : E)
  | not (a : E)
  | and (es : Es)
  | or (es : Es)
  | ife (c a b : E)
  | idx (a b : E)
  | sli (a : E) (lo hi : Eo)
  | rev (a : E)
  | call (j : Nat) (es : Es)
  | cak (j : Nat) (es : Es) (ks : List Str) (ws : Es) (perm : List Nat)
  | b1 (f : B1) (m : Nat) (a : E)
  | b2 (f : B2) (a b : E)
  | isi (a : E) (ts : List Ty)
  | fld (a : E) (f : Str)
  | mt (f : Mt) (o : E) (es : Es)
  | itl (f : B1) (m : Nat) (it : Ir)
  | lc1 (m : Nat) (elt : E) (t : T) (it : Ir) (c : Es) (own : List Nat)
  | lc2 (m : Nat) (elt : E) (t : T) (it : Ir) (c : Es) (t1 : T) (it1 : Ir) (c1 : Es) (own own1 : List Nat)
  | dc1 (m : Nat) (k v : E) (t : T) (it : Ir) (c : Es) (own : List Nat)
  | frz (a : E)
inductive Eo where
  | none
  | some (e : E)
inductive Es where
  | nil
  | cons (e : E) (es : Es)
inductive Ir where
  | val (e : E)
  | rg1 (a : E)
  | rg2 (a b : E)
  | zip (a b : E)
  | enm (a : E)
  | rvs (a : E)
end
mutual
inductive S where
  | asg (t : T) (e : E)
  | par (is : List Nat) (es : Es)
  | sub (o i e : E)
  | sub2 (o1 i1 o2 i2 e1 e2 : E)
  | exp (e : E)
  | ife (c : E) (a b : Ss)
  | for_ (t : T) (it : Ir) (b : Ss)
  | whl (c : E) (b : Ss)
  | ret (e : E)
  | ris (c : Str) (fs : List Str) (e : E)
  | pas
  | brk
  | nev
inductive Ss where
  | nil
  | cons (s : S) (ss : Ss)
end
inductive Flow where
  | nx | brk | cnt
  | ret (v : Val)

abbrev Fn := List Val → M Val
/-- what a body may speak of: defs, constants of the module -/
structure Ctx where
  fs : List (Str × Fn)
  gs : List (Str × Dt)

/-! ### the parts -/
def conD : Const → Option Dt
  | .none => some .none
  | .bool b => some (.bool b)
  | .int i => some (.int i)
  | .str x => some (.str x)
  | _ => none
def lookEnv (ρ : Env) (i : Nat) : M Val := fun st =>
  match ρ[i]? with
  | some (some v) => .ok v st
  | _ => .bad
def datas : List Val → Option (List Dt)
  | [] => some []
  | v :: vs => (toD v).bind fun x => (datas vs).map fun xs => x :: xs
/-- a display with objects within: live -/
def mkList (m : Nat) (vs : List Val) : M Val := fun st =>
  match m with
  | 0 => (match datas vs with | some xs => .ok (.d (.list xs)) st | none => .bad)
  | 1 => (match datas vs with | some xs => .ok (.ref st.length) (st ++ [.lst xs]) | none => .bad)
  | _ => .ok (.ref st.length) (st ++ [.lsv vs])
def setD : List Nat → List Dt → Env → Env
  | i :: is, v :: vs, ρ => setD is vs (ρ.set i (some (.d v)))
  | _, _, ρ => ρ
def bind1 (t : T) (v : Val) (ρ : Env) : M Env := fun st =>
  match t with
  | .nm i => .ok (ρ.set i (some v)) st
  | .tp is => (match v with
    | .d (.tuple xs) => if xs.length = is.length then .ok (setD is xs ρ) st else .bad
    | _ => .bad)
def setAll : List Nat → List Val → Env → Env
  | i :: is, v :: vs, ρ => setAll is vs (ρ.set i (some v))
  | _, _, ρ => ρ
def wipeE (ρ : Env) : List Nat → Env
  | [] => ρ
  | i :: is => (wipeE ρ is).set i none
/-- a dict's put -/
def putV (v i x : Val) : M Unit := fun st =>
  match v with
  | .ref n => (match st[n]?, i, x with
    | some (.lst xs), .d (.int k), .d y => (match ixOf xs.length k with
      | some j => .ok () (st.set n (.lst (xs.set j y)))
      | none => .bad)
    | some (.lsv xs), .d (.int k), y => (match ixOf xs.length k with
      | some j => .ok () (st.set n (.lsv (xs.set j y)))
      | none => .bad)
    | some (.dct kvs), .d k, .d y => (match dputs kvs k y with
      | some kvs' => .ok () (st.set n (.dct kvs'))
      | none => .bad)
    | some (.dcv kvs), .d (.str k), y => if (kvs.lookup k).isSome && fits (kvs.length + 1) then .ok () (st.set n (.dcv (kvs.map fun p => if p.1 = k then (p.1, y) else p))) else .bad
    | _, _, _ => .bad)
  | _ => .bad
def idxV (v i : Val) : M Val := fun st =>
  match v, i with
  | .ref n, .d i => (match st[n]? with
    | some (.lst xs) => (match idxD (.list xs) i with | some y => .ok (.d y) st | none => .bad)
    | some (.dct kvs) => (match idxD (.dict kvs) i with | some y => .ok (.d y) st | none => .bad)
    | some (.fz x) => (match idxD x i with | some y => .ok (.d y) st | none => .bad)
    | some (.lsv xs) => (match i with | .int k => (match at? xs k with | some y => .ok y st | none => .bad) | _ => .bad)
    | some (.dcv kvs) => (match i with | .str k => (match kvs.lookup k with | some y => .ok y st | none => .bad) | _ => .bad)
    | _ => .bad)
  | .d x, .d i => (match idxD x i with | some y => .ok (.d y) st | none => .bad)
  | _, _ => .bad
def strJoin (a : Str) (xs : List Str) : Option Str := if fits (xs.foldl (fun n x => n + x.length + a.length) 0) then some ⟨((xs.map fun x => x.cps.toList).intersperse a.cps.toList).flatten.toArray⟩ else none
/-- is it a list of the store -/
def mtK (v : Val) : M Unit := fun st =>
  match v with
  | .ref n => (match st[n]? with
    | some (.lst _) => .ok () st
    | some (.lsv _) => .ok () st
    | _ => .bad)
  | _ => .bad
def mtApp (v : Val) (as : List Val) : M Val := fun st =>
  match v, as with
  | .ref n, [x] => (match st[n]?, x with
    | some (.lst xs), .d y => if xs.length < sizeLine then .ok (.d .none) (st.set n (.lst (xs ++ [y]))) else .bad
    | some (.lsv xs), y => if xs.length < sizeLine then .ok (.d .none) (st.set n (.lsv (xs ++ [y]))) else .bad
    | _, _ => .bad)
  | _, _ => .bad
def mtExt (v : Val) (as : List Val) : M Val := fun st =>
  match v, as with
  | .ref n, [.ref m] => (match st[n]?, st[m]? with
    | some (.lst xs), some (.lst ys) => if fits (xs.length + ys.length) then .ok (.d .none) (st.set n (.lst (xs ++ ys))) else .bad
    | _, _ => .bad)
  | _, _ => .bad
def mtPop (v : Val) (as : List Val) : M Val := fun st =>
  match v, as with
  | .ref n, [] => (match st[n]? with
    | some (.lst xs) => (match xs[xs.length - 1]? with | some y => .ok (.d y) (st.set n (.lst xs.dropLast)) | none => .bad)
    | _ => .bad)
  | _, _ => .bad
def mtPopAt (v : Val) (as : List Val) : M Val := fun st =>
  match v, as with
  | .ref n, [.d (.int i)] => (match st[n]? with
    | some (.lst xs) => (match ixOf xs.length i with
      | some j => (match xs[j]? with | some y => .ok (.d y) (st.set n (.lst (xs.eraseIdx j))) | none => .bad)
      | none => .bad)
    | _ => .bad)
  | _, _ => .bad
/-- put one behind the other -/
def putAll (kvs : List (Dt × Dt)) : List (Dt × Dt) := kvs.foldl (fun d p => dput d p.1 p.2) []
/-- a method's call -/
def mtV (f : Mt) (v : Val) (as : List Val) : M Val := match f with
  | .append => mtApp v as
  | .extend => mtExt v as
  | .pop => mtPop v as
  | .popAt => mtPopAt v as
  | _ => bad
def fldV (v : Val) (f : Str) : M Val := fun st =>
  match v with
  | .err _ fs => (match fs.lookup f with | some x => .ok (.d x) st | none => .bad)
  | _ => .bad
def isiV (v : Val) (ts : List Ty) : M Val := bnd (dat v) fun x => ret (.d (.bool (ts.any (subTy (tyD x)))))
/-- the items gone through, and the objects that must not change meanwhile -/
def itemsV (v : Val) : M (List Val × List Nat) := fun st =>
  match v with
  | .d x => (match itemsD x with | some xs => .ok (xs.map .d, []) st | none => .bad)
  | .ref n => (match st[n]? with
    | some (.lst xs) => .ok (xs.map .d, [n]) st
    | some (.dct kvs) => .ok (kvs.map (fun p => .d p.1), []) (st.set n (.fz (.dict kvs)))
    | some (.lsv xs) => .ok (xs, [n]) st
    | some (.kl xs) => .ok (xs.map .d, []) st
    | some (.fz x) => (match itemsD x with | some xs => .ok (xs.map .d, []) st | none => .bad)
    | _ => .bad)
  | _ => .bad
def guard1 : Val → List Nat
  | .ref n => [n]
  | _ => []
def zipV (v w : Val) : M (List Val × List Nat) := fun st =>
  match (look st v).bind seqD, (look st w).bind seqD with
  | some xs, some ys => .ok ((xs.zip ys).map fun p => .d (.tuple [p.1, p.2]), guard1 v ++ guard1 w) st
  | _, _ => .bad
def enmV (v : Val) : M (List Val × List Nat) := fun st =>
  match (look st v).bind seqD with
  | some xs => .ok (xs.mapIdx fun i x => .d (.tuple [.int i, x]), guard1 v) st
  | none => .bad
def rvsV (v : Val) : M (List Val × List Nat) := fun st =>
  match (look st v).bind seqD with
  | some xs => .ok (xs.reverse.map .d, guard1 v) st
  | none => .bad
def rngV (lo hi : Dt) : M (List Val × List Nat) := fun st =>
  match lo, hi with
  | .int a, .int b => if decide (-(2 ^ 62) ≤ a) && decide (a < 2 ^ 62) && decide (-(2 ^ 62) ≤ b) && decide (b < 2 ^ 62) && fits (b - a).toNat then .ok ((List.range (b - a).toNat).map fun i => .d (.int (a + (i : Nat))), []) st else .bad
  | _, _ => .bad
/-- the objects at gs are as they were -/
def Held (gs : List Nat) (st st' : Sto) : Prop := ∀ n ∈ gs, st'[n]? = st[n]?
open Classical in
noncomputable def held (gs : List Nat) (st₀ : Sto) : M Unit := fun st => if Held gs st₀ st then .ok () st else .bad

/-! ### loops -/
/-- for: the items one after another -/
noncomputable def forL (gs : List Nat) (st₀ : Sto) (f : Val → Env → M (Flow × Env)) : List Val → Env → M (Flow × Env)
  | [], ρ => bnd (held gs st₀) fun _ => ret (.nx, ρ)
  | x :: xs, ρ => bnd (held gs st₀) fun _ => bnd (f x ρ) fun q => match q.1 with
    | .nx => forL gs st₀ f xs q.2
    | .cnt => forL gs st₀ f xs q.2
    | .brk => ret (.nx, q.2)
    | .ret v => ret (.ret v, q.2)
/-- a comprehension's turns: what each gives, if any -/
noncomputable def lcL {α : Type} (gs : List Nat) (st₀ : Sto) (f : Val → M (List α)) : List Val → M (List α)
  | [] => bnd (held gs st₀) fun _ => ret []
  | x :: xs => bnd (held gs st₀) fun _ => bnd (f x) fun ys => bnd (lcL gs st₀ f xs) fun zs => ret (ys ++ zs)
/-- a turn of a comprehension: the target, the conditions, what comes of it -/
noncomputable def turnF {α : Type} (t : T) (own : List Nat) (mc : Env → M Bool) (mv : Env → M (List α)) (ρ : Env) : Val → M (List α) := fun x => bnd (bind1 t x (wipeE ρ own)) fun ρ' => bnd (mc ρ') fun k => if k then mv ρ' else ret []
/-- n turns of a while at most -/
def whN (c : Env → M Bool) (b : Env → M (Flow × Env)) : Nat → Env → Sto → Option (Res (Flow × Env))
  | 0, _, _ => none
  | n + 1, ρ, st => match c ρ st with
    | .ok false st' => some (.ok (.nx, ρ) st')
    | .ok true st' => (match b ρ st' with
      | .ok (.nx, ρ') st'' => whN c b n ρ' st''
      | .ok (.cnt, ρ') st'' => whN c b n ρ' st''
      | .ok (.brk, ρ') st'' => some (.ok (.nx, ρ') st'')
      | .ok (.ret v, ρ') st'' => some (.ok (.ret v, ρ') st'')
      | .err e st'' => some (.err e st'')
      | .bad => some .bad)
    | .err e st' => some (.err e st')
    | .bad => some .bad
open Classical in
noncomputable def whl (c : Env → M Bool) (b : Env → M (Flow × Env)) (ρ : Env) : M (Flow × Env) := fun st =>
  if h : ∃ n r, whN c b n ρ st = some r then Classical.choose (Classical.choose_spec h) else .bad

/-! ### what a term gives -/
def asBool (v : Val) : M Bool := opt ((toD v).bind boolD)
def bv (b : Bool) : Val := .d (.bool b)
def cmpV (o : CmpOp) (v w : Val) : M Val := bnd (dat v) fun x => bnd (dat w) fun y => bnd (opt (cmpD o x y)) fun b => ret (bv b)
/-- keys and values in turn -/
def pairUp : List Val → Option (List (Dt × Dt))
  | [] => some []
  | [_] => none
  | k :: v :: r => (toD k).bind fun x => (toD v).bind fun y => (pairUp r).map fun ps => (x, y) :: ps
variable (C : Ctx)
mutual
noncomputable def ev : E → Env → M Val
  | .var i, ρ => lookEnv ρ i
  | .con c, _ => bnd (opt (conD c)) fun x => ret (.d x)
  | .glb j, _ => bnd (opt (C.gs[j]?)) fun p => ret (.d p.2)
  | .fun_ j, _ => bnd (opt (C.fs[j]?)) fun p => ret (.fn p.1)
  | .tup es, ρ => bnd (evs es ρ) fun vs => bnd (opt (datas vs)) fun xs => ret (.d (.tuple xs))
  | .lst m es, ρ => bnd (evs es ρ) fun vs => mkList m vs
  | .dct m es, ρ => bnd (evs es ρ) fun vs => bnd (opt (pairUp vs)) fun kvs => bnd (opt (dputAll [] kvs)) fun kvs' => fresh m (.dict kvs')
  | .dcv ks vs, ρ => bnd (evs vs ρ) fun xs => if xs.length = ks.length then alloc (.dcv (ks.zip xs)) else bad
  | .bin o a b, ρ => bnd (ev a ρ) fun v => bnd (ev b ρ) fun w => bnd (dat2 v) fun x => bnd (dat2 w) fun y => bnd (opt (binD o x y)) fun z => ret (.d z)
  | .neg a, ρ => bnd (ev a ρ) fun v => bnd (pureD v) fun x => bnd (opt (negD x)) fun z => ret (.d z)
  | .cmp o a b, ρ => bnd (ev a ρ) fun v => bnd (ev b ρ) fun w => cmpV o v w
  | .chn o1 o2 a b c, ρ => bnd (ev a ρ) fun v => bnd (ev b ρ) fun w => bnd (cmpV o1 v w) fun r => bnd (asBool r) fun k => if k then bnd (ev c ρ) fun u => cmpV o2 w u else ret (bv false)
  | .chn3 o1 o2 o3 a b c d, ρ => bnd (ev a ρ) fun v => bnd (ev b ρ) fun w => bnd (cmpV o1 v w) fun r => bnd (asBool r) fun k => if k then bnd (ev c ρ) fun u => bnd (cmpV o2 w u) fun r2 => bnd (asBool r2) fun k2 => if k2 then bnd (ev d ρ) fun z => cmpV o3 u z else ret (bv false) else ret (bv false)
  | .not a, ρ => bnd (ev a ρ) fun v => bnd (asBool v) fun k => ret (bv (!k))
  | .and es, ρ => bnd (evc es ρ) fun k => ret (bv k)
  | .or es, ρ => bnd (evd es ρ) fun k => ret (bv k)
  | .ife c a b, ρ => bnd (ev c ρ) fun v => bnd (asBool v) fun k => if k then ev a ρ else ev b ρ
  | .idx a b, ρ => bnd (ev a ρ) fun v => bnd (ev b ρ) fun w => idxV v w
  | .sli a lo hi, ρ => bnd (ev a ρ) fun v => bnd (evo lo ρ) fun l => bnd (evo hi ρ) fun h => bnd (dat v) fun x => bnd (opt (sliD x l h)) fun z => ret (.d z)
  | .rev a, ρ => bnd (ev a ρ) fun v => bnd (dat v) fun x => bnd (opt (revD x)) fun z => ret (.d z)
  | .call j es, ρ => bnd (evs es ρ) fun vs => bnd (opt (C.fs[j]?)) fun p => p.2 vs
  | .cak j es _ ws perm, ρ => bnd (evs es ρ) fun vs => bnd (evs ws ρ) fun us => bnd (opt (C.fs[j]?)) fun p => bnd (opt (perm.mapM fun i => (vs ++ us)[i]?)) fun zs => p.2 zs
  | .b1 f m a, ρ => bnd (ev a ρ) fun v => bnd (dat v) fun x => bnd (opt (b1D f x)) fun z => fresh m z
  | .b2 f a b, ρ => bnd (ev a ρ) fun v => bnd (ev b ρ) fun w => bnd (pureD v) fun x => bnd (pureD w) fun y => bnd (opt (b2D f x y)) fun z => ret (.d z)
  | .isi a ts, ρ => bnd (ev a ρ) fun v => isiV v ts
  | .fld a f, ρ => bnd (ev a ρ) fun v => fldV v f
  | .mt f o es, ρ => bnd (ev o ρ) fun v => bnd (mtK v) fun _ => bnd (evs es ρ) fun vs => mtV f v vs
  | .itl f m it, ρ => bnd (evi it ρ) fun q => bnd (opt (datas q.1)) fun xs => bnd (opt (b1D f (.list xs))) fun z => fresh m z
  | .lc1 m elt t it c own, ρ => bnd (evi it ρ) fun q => fun st => bnd (shut (lcL q.2 st (turnF t own (fun ρ => evc c ρ) (fun ρ => bnd (ev elt ρ) fun v => bnd (pureD v) fun y => ret [y]) ρ) q.1)) (fun ys => fresh m (.list ys)) st
  | .lc2 m elt t it c t1 it1 c1 own own1, ρ => bnd (evi it ρ) fun q => fun st => bnd (shut (lcL q.2 st (turnF t own (fun ρ => evc c ρ) (fun ρ => bnd (evi it1 ρ) fun q1 => fun st1 => if fits (q.1.length * q1.1.length) = false then .bad else
      lcL q1.2 st1 (turnF t1 own1 (fun ρ => evc c1 ρ) (fun ρ => bnd (ev elt ρ) fun v => bnd (pureD v) fun y => ret [y]) ρ) q1.1 st1) ρ) q.1)) (fun ys => fresh m (.list ys)) st
  | .dc1 m k v t it c own, ρ => bnd (evi it ρ) fun q => fun st => bnd (shut (lcL q.2 st (turnF t own (fun ρ => evc c ρ) (fun ρ => bnd (ev k ρ) fun kv => bnd (ev v ρ) fun vv => bnd (pureD kv) fun y => bnd (pureD vv) fun z => bnd (opt (if flatKey y then some () else none)) fun _ => ret [(y, z)]) ρ) q.1)) (fun kvs => fresh m (.dict (putAll kvs))) st
  | .frz a, ρ => bnd (ev a ρ) freeze
noncomputable def evo : Eo → Env → M (Option Int)
  | .none, _ => ret none
  | .some e, ρ => bnd (ev e ρ) fun v => bnd (pureD v) fun x => match x with
    | .int i => ret (some i)
    | _ => bad
noncomputable def evs : Es → Env → M (List Val)
  | .nil, _ => ret []
  | .cons e es, ρ => bnd (ev e ρ) fun v => bnd (evs es ρ) fun vs => ret (v :: vs)
/-- conditions, one behind the other -/
noncomputable def evc : Es → Env → M Bool
  | .nil, _ => ret true
  | .cons e es, ρ => bnd (ev e ρ) fun v => bnd (asBool v) fun k => if k then evc es ρ else ret false
/-- one of them -/
noncomputable def evd : Es → Env → M Bool
  | .nil, _ => ret false
  | .cons e es, ρ => bnd (ev e ρ) fun v => bnd (asBool v) fun k => if k then ret true else evd es ρ
noncomputable def evi : Ir → Env → M (List Val × List Nat)
  | .val e, ρ => bnd (ev e ρ) itemsV
  | .rg1 a, ρ => bnd (ev a ρ) fun v => bnd (pureD v) fun x => rngV (.int 0) x
  | .rg2 a b, ρ => bnd (ev a ρ) fun v => bnd (ev b ρ) fun w => bnd (pureD v) fun x => bnd (pureD w) fun y => rngV x y
  | .zip a b, ρ => bnd (ev a ρ) fun v => bnd (ev b ρ) fun w => zipV v w
  | .enm a, ρ => bnd (ev a ρ) enmV
  | .rvs a, ρ => bnd (ev a ρ) rvsV
end
mutual
noncomputable def ex : S → Env → M (Flow × Env)
  | .asg t e, ρ => bnd (ev C e ρ) fun v => bnd (bind1 t v ρ) fun ρ' => ret (.nx, ρ')
  | .par is es, ρ => bnd (evs C es ρ) fun vs => if vs.length = is.length then ret (.nx, setAll is vs ρ) else bad
  | .sub o i e, ρ => bnd (ev C e ρ) fun x => bnd (ev C o ρ) fun v => bnd (ev C i ρ) fun k => bnd (putV v k x) fun _ => ret (.nx, ρ)
  | .sub2 o1 i1 o2 i2 e1 e2, ρ => bnd (ev C e1 ρ) fun x1 => bnd (ev C e2 ρ) fun x2 => bnd (ev C o1 ρ) fun v1 => bnd (ev C i1 ρ) fun k1 => bnd (putV v1 k1 x1) fun _ => bnd (ev C o2 ρ) fun v2 => bnd (ev C i2 ρ) fun k2 => bnd (putV v2 k2 x2) fun _ => ret (.nx, ρ)
  | .exp e, ρ => bnd (ev C e ρ) fun _ => ret (.nx, ρ)
  | .ife c a b, ρ => bnd (ev C c ρ) fun v => bnd (asBool v) fun k => if k then exs a ρ else exs b ρ
  | .for_ t it b, ρ => bnd (evi C it ρ) fun q => fun st => forL q.2 st (fun x ρ => bnd (bind1 t x ρ) fun ρ' => exs b ρ') q.1 ρ st
  | .whl c b, ρ => whl (fun ρ => bnd (ev C c ρ) asBool) (fun ρ => exs b ρ) ρ
  | .ret e, ρ => bnd (ev C e ρ) fun v => ret (.ret v, ρ)
  | .ris c f e, ρ => bnd (ev C e ρ) fun v => bnd (pureD v) fun x => fun st => .err (.err c (f.map fun n => (n, x))) st
  | .pas, ρ => ret (.nx, ρ)
  | .brk, ρ => ret (.brk, ρ)
  | .nev, _ => bad
noncomputable def exs : Ss → Env → M (Flow × Env)
  | .nil, ρ => ret (.nx, ρ)
  | .cons s ss, ρ => bnd (ex s ρ) fun q => match q.1 with
    | .nx => exs ss q.2
    | f => ret (f, q.2)
end
/-- what was there ahead of the call does not know what came since -/
def Back (st st' : Sto) : Prop := ∀ (n : Nat) (c : Cell), n < st.length → st'[n]? = some c → st[n]? = some c ∨ c.below st.length
open Classical in
/-- the objects of the call forgotten -/
noncomputable def back {α : Type} (st st' : Sto) (r : Sto → Res α) : Res α := if Back st st' then r (st'.take st.length) else .bad
/-- a def: np parameters, ns names; keep: it may hand back an object of the store -/
noncomputable def den (np ns : Nat) (keep : Bool) (body : Ss) : Fn := fun args st =>
  if args.length = np then
    match exs C body (args.map some ++ List.replicate (ns - np) none) st with
    | .ok q st' => (match q.1 with
      | .ret v => if keep then .ok v st' else (match v with
        | .ref _ => .bad
        | v => back st st' (.ok v))
      | .nx => back st st' (.ok (.d .none))
      | _ => .bad)
    | .err e st' => back st st' (.err e)
    | .bad => .bad
  else .bad
end EV
end

section
set_option autoImplicit false
set_option linter.all false
set_option maxRecDepth 100000
set_option Elab.async false
/-! EvRel: how values and the store of EV lie in the layer's abstract heap. -/
namespace EV
open PySem PySem.Spec PyProof.Rows L2

/-- what never changes -/
def Fz : HO → Prop
  | .tup _ => True
  | .frz _ _ => True
  | .xd _ => True
  | _ => False
/-- a dict by its entries -/
def RawD (a : Addr) (es : Array DictEntry) : HO := .ext fun h => (a == sysModules) = false ∧ es.size ≤ sizeLine ∧ ∃ o ep, h.get? a = some o ∧ o.ExactDict ∧ o.data = .dict es ep
/-- a list that never changes -/
def FzL (H : Hp) (a : Addr) (xs : List V) : Prop := ∃ o, H a = some (.frz o (.lst xs))
theorem FzL.rd {H : Hp} {a : Addr} {xs : List V} (h : FzL H a xs) : Rd H a (.lst xs) := .inr h
/-- a list of the written part -/
def KL (K : PySem.W.Frag) (a : Addr) (xs : List V) : Prop := ∃ (o : Obj) (its : Array Value) (n : Nat), K.lookup a = some o ∧ o.cls = .type "list" ∧ o.dict = none ∧ o.data = .seq its n ∧ its.size ≤ sizeLine ∧ Vals xs its.toList
theorem Inv.rdl {X : Cx} {pins : List (Addr × Obj)} {σ : L2.St} {H : Hp} {s : Shared} {a : Addr} {xs : List V} (I : Inv X pins σ H s) (h : SqL X.K H a xs) :
    xs.length ≤ sizeLine ∧ ∃ (its : List Value) (n : Nat) (o : Obj), Vals xs its ∧ xs.length = its.length ∧ s.heap.get? a = some o ∧ o.cls = .type "list" ∧ o.dict = none ∧ o.data = .seq its.toArray n := by
  rcases h with h | ⟨o, its, n, k, c, d, e, z, r⟩
  · obtain ⟨z, its, n, r, e⟩ := h.ok I.hok
    exact ⟨z, its, n, _, r, r.length, e, rfl, rfl, rfl⟩
  · have hl : xs.length = its.size := r.length.trans Array.length_toList
    exact ⟨by rw [hl]; exact z, its.toList, n, o, r, r.length, I.kIn a o k, c, d, by rw [e]⟩
/-- a list that is not of the written part -/
theorem Inv.rd0 {X : Cx} {pins : List (Addr × Obj)} {σ : L2.St} {H : Hp} {s : Shared} {a : Addr} {xs : List V} (I : Inv X pins σ H s) (h : Rd H a (.lst xs)) :
    xs.length ≤ sizeLine ∧ ∃ (its : List Value) (n : Nat), Vals xs its ∧ xs.length = its.length ∧ s.heap.get? a = some { cls := .type "list", data := .seq its.toArray n } := by
  obtain ⟨z, its, n, r, e⟩ := h.ok I.hok
  exact ⟨z, its, n, r, r.length, e⟩

/-- a key that is a number or a text -/
def fk : Dt → Option Key
  | .int i => some (.inl i)
  | .str x => some (.inr x)
  | _ => none
/-- the entries of a dict of the keys and values kvs, which lie at vs -/
def EntOk (P : Program) (w : World) (kvs : List (Dt × Dt)) (vs : List (V × V)) (es : Array DictEntry) : Prop :=
  kvs.length = vs.length ∧
  ((∃ xs : List (NestedKey × Addr × Value), es.toList = xs.map (entryOfKey (nestedKind P w)) ∧ (xs.map (·.1)).Nodup ∧
      Paired (fun (p : (Dt × Dt) × (V × V)) x => nk p.1.1 = some x.1 ∧ tupKey p.1.1 = true ∧ p.2.1 = .ref x.2.1 ∧ RelV p.2.2 x.2.2) (kvs.zip vs) xs) ∨
   (∃ ys : List (Key × Value), KeysOf (mixKind P w) es ∧ Pairs (mixKind P w) es.toList ys ∧ (ys.map (·.1)).Nodup ∧
      Paired (fun (p : (Dt × Dt) × (V × V)) y => fk p.1.1 = some y.1 ∧ RelV p.2.2 y.2) (kvs.zip vs) ys))

section
variable (P : Program) (w : World) (K : PySem.W.Frag) (H : Hp)
mutual
/-- x lies at v, and will lie there ever more -/
def RF : Dt → V → Prop
  | .none, v => v = .non
  | .bool b, v => v = .bl b
  | .int i, v => v = .int i
  | .str x, v => v = .str x
  | .tuple ds, v => ∃ a xs, v = .ref a ∧ SqT K H a xs ∧ RFs ds xs
  | .list ds, v => ∃ a xs, v = .ref a ∧ FzL H a xs ∧ RFs ds xs
  | .dict kvs, v => ∃ a o es vs, v = .ref a ∧ H a = some (.frz o (RawD a es)) ∧ RFkv kvs vs ∧ EntOk P w kvs vs es
def RFs : List Dt → List V → Prop
  | [], xs => xs = []
  | d :: ds, xs => ∃ x r, xs = x :: r ∧ RF d x ∧ RFs ds r
def RFkv : List (Dt × Dt) → List (V × V) → Prop
  | [], xs => xs = []
  | p :: ps, xs => ∃ x r, xs = x :: r ∧ RFp p x ∧ RFkv ps r
def RFp : Dt × Dt → V × V → Prop
  | (k, v), x => RF k x.1 ∧ RF v x.2
end
end

section
variable {P : Program} {w : World} {K : PySem.W.Frag} {H H' : Hp}
theorem SqT.fz {a : Addr} {xs : List V} (m : ∀ b o, H b = some o → Fz o → H' b = some o) (h : SqT K H a xs) : SqT K H' a xs := by
  rcases h with (h | ⟨o, h⟩) | h
  · exact .inl (.inl (m _ _ h trivial))
  · exact .inl (.inr ⟨o, m _ _ h trivial⟩)
  · exact .inr h
theorem FzL.fz {a : Addr} {xs : List V} (m : ∀ b o, H b = some o → Fz o → H' b = some o) (h : FzL H a xs) : FzL H' a xs := by
  obtain ⟨o, h⟩ := h
  exact ⟨o, m _ _ h trivial⟩
mutual
theorem RF.mono (m : ∀ b o, H b = some o → Fz o → H' b = some o) : ∀ (d : Dt) (v : V), RF P w K H d v → RF P w K H' d v
  | .none, _, h => by simpa [RF] using h
  | .bool _, _, h => by simpa [RF] using h
  | .int _, _, h => by simpa [RF] using h
  | .str _, _, h => by simpa [RF] using h
  | .tuple ds, v, h => by
    rw [RF] at h ⊢
    obtain ⟨a, xs, e, s, r⟩ := h
    exact ⟨a, xs, e, SqT.fz m s, RFs.mono m ds xs r⟩
  | .list ds, v, h => by
    rw [RF] at h ⊢
    obtain ⟨a, xs, e, s, r⟩ := h
    exact ⟨a, xs, e, s.fz m, RFs.mono m ds xs r⟩
  | .dict kvs, v, h => by
    rw [RF] at h ⊢
    obtain ⟨a, o, es, vs, e, s, r, t⟩ := h
    exact ⟨a, o, es, vs, e, m _ _ s trivial, RFkv.mono m kvs vs r, t⟩
theorem RFs.mono (m : ∀ b o, H b = some o → Fz o → H' b = some o) : ∀ (ds : List Dt) (vs : List V), RFs P w K H ds vs → RFs P w K H' ds vs
  | [], _, h => by simpa [RFs] using h
  | d :: ds, vs, h => by
    rw [RFs] at h ⊢
    obtain ⟨x, r, e, h1, h2⟩ := h
    exact ⟨x, r, e, RF.mono m d x h1, RFs.mono m ds r h2⟩
theorem RFkv.mono (m : ∀ b o, H b = some o → Fz o → H' b = some o) : ∀ (ds : List (Dt × Dt)) (vs : List (V × V)), RFkv P w K H ds vs → RFkv P w K H' ds vs
  | [], _, h => by simpa [RFkv] using h
  | d :: ds, vs, h => by
    rw [RFkv] at h ⊢
    obtain ⟨x, r, e, h1, h2⟩ := h
    exact ⟨x, r, e, RFp.mono m d x h1, RFkv.mono m ds r h2⟩
theorem RFp.mono (m : ∀ b o, H b = some o → Fz o → H' b = some o) : ∀ (d : Dt × Dt) (v : V × V), RFp P w K H d v → RFp P w K H' d v
  | (k, x), v, h => by
    rw [RFp] at h ⊢
    exact ⟨RF.mono m k _ h.1, RF.mono m x _ h.2⟩
end
theorem RFs.length : ∀ {ds : List Dt} {vs : List V}, RFs P w K H ds vs → ds.length = vs.length
  | [], _, h => by rw [RFs] at h; rw [h]; rfl
  | d :: ds, vs, h => by
    rw [RFs] at h
    obtain ⟨x, r, e, _, h2⟩ := h
    rw [e, List.length_cons, List.length_cons, RFs.length h2]
theorem RFs.get : ∀ {ds : List Dt} {vs : List V} {i : Nat} {d : Dt}, RFs P w K H ds vs → ds[i]? = some d → ∃ v, vs[i]? = some v ∧ RF P w K H d v
  | [], _, _, _, _, e => by simp at e
  | d :: ds, vs, 0, x, h, e => by
    rw [RFs] at h
    obtain ⟨y, r, q, h1, _⟩ := h
    simp at e; subst e; exact ⟨y, by rw [q]; rfl, h1⟩
  | d :: ds, vs, i + 1, x, h, e => by
    rw [RFs] at h
    obtain ⟨y, r, q, _, h2⟩ := h
    obtain ⟨v, e1, e2⟩ := RFs.get (i := i) (d := x) h2 (by simpa using e)
    exact ⟨v, by rw [q]; simpa using e1, e2⟩
/-- the other way: what lies in a list is one of its items -/
theorem RFs.got {ds : List Dt} {vs : List V} {i : Nat} {v : V} (h : RFs P w K H ds vs) (e : vs[i]? = some v) : ∃ d, ds[i]? = some d ∧ RF P w K H d v := by
  have hl := h.length
  have hi : i < ds.length := by rw [hl]; exact (List.getElem?_eq_some_iff.mp e).1
  obtain ⟨v', e', r⟩ := h.get (List.getElem?_eq_getElem hi)
  rw [e] at e'
  cases e'
  exact ⟨_, List.getElem?_eq_getElem hi, r⟩
theorem RFs.app : ∀ {ds es : List Dt} {vs us : List V}, RFs P w K H ds vs → RFs P w K H es us → RFs P w K H (ds ++ es) (vs ++ us)
  | [], _, _, _, h, g => by rw [RFs] at h; rw [h]; exact g
  | d :: ds, _, _, _, h, g => by
    rw [RFs] at h
    obtain ⟨x, r, q, h1, h2⟩ := h
    rw [q, List.cons_append, List.cons_append, RFs]
    exact ⟨x, _, rfl, h1, h2.app g⟩
theorem RFs.of_get : ∀ {ds : List Dt} {vs : List V}, ds.length = vs.length → (∀ (i : Nat) (d : Dt) (v : V), ds[i]? = some d → vs[i]? = some v → RF P w K H d v) → RFs P w K H ds vs
  | [], [], _, _ => by rw [RFs]
  | [], _ :: _, h, _ => by simp at h
  | _ :: _, [], h, _ => by simp at h
  | d :: ds, v :: vs, h, g => by
    rw [RFs]
    exact ⟨v, vs, rfl, g 0 d v rfl rfl, RFs.of_get (by simpa using h) fun i d v a b => g (i + 1) d v (by simpa using a) (by simpa using b)⟩
theorem RFs.take {ds : List Dt} {vs : List V} (h : RFs P w K H ds vs) (n : Nat) : RFs P w K H (ds.take n) (vs.take n) :=
  RFs.of_get (by simp [h.length]) fun i d v a b => by
    rw [List.getElem?_take] at a b
    split at a
    · rename_i hi
      rw [if_pos hi] at b
      obtain ⟨v', e, r⟩ := h.get a
      rw [b] at e; cases e; exact r
    · cases a
theorem RFs.drop {ds : List Dt} {vs : List V} (h : RFs P w K H ds vs) (n : Nat) : RFs P w K H (ds.drop n) (vs.drop n) :=
  RFs.of_get (by simp [h.length]) fun i d v a b => by
    rw [List.getElem?_drop] at a b
    obtain ⟨v', e, r⟩ := h.get a
    rw [b] at e; cases e; exact r
theorem RFs.reverse {ds : List Dt} {vs : List V} (h : RFs P w K H ds vs) : RFs P w K H ds.reverse vs.reverse :=
  RFs.of_get (by simp [h.length]) fun i d v a b => by
    have hi : i < ds.length := by
      have := (List.getElem?_eq_some_iff.mp a).1
      simpa using this
    rw [List.getElem?_reverse hi] at a
    rw [List.getElem?_reverse (by rw [← h.length]; exact hi), ← h.length] at b
    obtain ⟨v', e, r⟩ := h.get a
    rw [b] at e; cases e; exact r
theorem RFs.set {ds : List Dt} {vs : List V} {d : Dt} {v : V} (h : RFs P w K H ds vs) (r : RF P w K H d v) (n : Nat) : RFs P w K H (ds.set n d) (vs.set n v) :=
  RFs.of_get (by simp [h.length]) fun i x y a b => by
    rw [List.getElem?_set] at a b
    split at a
    · rename_i hi
      rw [if_pos hi] at b
      split at a
      · split at b
        · cases a; cases b; exact r
        · cases b
      · cases a
    · rename_i hi
      rw [if_neg hi] at b
      obtain ⟨v', e, r'⟩ := h.get a
      rw [b] at e; cases e; exact r'
theorem RFs.eraseIdx {ds : List Dt} {vs : List V} (h : RFs P w K H ds vs) (n : Nat) : RFs P w K H (ds.eraseIdx n) (vs.eraseIdx n) := by
  rw [List.eraseIdx_eq_take_drop_succ, List.eraseIdx_eq_take_drop_succ]
  exact (h.take n).app (h.drop (n + 1))
theorem RFs.dropLast {ds : List Dt} {vs : List V} (h : RFs P w K H ds vs) : RFs P w K H ds.dropLast vs.dropLast := by
  rw [List.dropLast_eq_take, List.dropLast_eq_take, h.length]
  exact h.take _
theorem RFs.nil : RFs P w K H [] [] := by rw [RFs]
theorem RFs.cons {d : Dt} {ds : List Dt} {v : V} {vs : List V} (h : RF P w K H d v) (g : RFs P w K H ds vs) : RFs P w K H (d :: ds) (v :: vs) := by
  rw [RFs]; exact ⟨v, vs, rfl, h, g⟩
theorem RFs.one {d : Dt} {v : V} (h : RF P w K H d v) : RFs P w K H [d] [v] := .cons h .nil
theorem RFs.flat {ds : List Dt} {vs : List V} (h : RFs P w K H ds vs) : ∀ n : Nat, RFs P w K H (List.replicate n ds).flatten (List.replicate n vs).flatten
  | 0 => RFs.nil
  | n + 1 => by
    rw [List.replicate_succ, List.replicate_succ, List.flatten_cons, List.flatten_cons]
    exact h.app (h.flat n)
theorem RFs.ints : ∀ {ds : List Dt} {vs : List V} {ns : List Int}, RFs P w K H ds vs → intsOf ds = some ns → vs = ns.map V.int ∧ ds = ns.map .int
  | [], _, _, h, e => by
    rw [RFs] at h
    rw [intsOf] at e; cases e
    exact ⟨h, rfl⟩
  | .int i :: ds, _, ns, h, e => by
    rw [RFs] at h
    obtain ⟨x, r, q, h1, h2⟩ := h
    rw [intsOf] at e
    cases e2 : intsOf ds with
    | none => rw [e2] at e; cases e
    | some ms =>
      rw [e2] at e; cases e
      rw [RF] at h1
      obtain ⟨q1, q2⟩ := RFs.ints h2 e2
      exact ⟨by rw [q, h1, q1]; rfl, by rw [q2]; rfl⟩
  | .none :: _, _, _, _, e => by simp [intsOf] at e
  | .bool _ :: _, _, _, _, e => by simp [intsOf] at e
  | .str _ :: _, _, _, _, e => by simp [intsOf] at e
  | .list _ :: _, _, _, _, e => by simp [intsOf] at e
  | .tuple _ :: _, _, _, _, e => by simp [intsOf] at e
  | .dict _ :: _, _, _, _, e => by simp [intsOf] at e
theorem RFs.bools : ∀ {ds : List Dt} {vs : List V} {ns : List Bool}, RFs P w K H ds vs → boolsOf ds = some ns → vs = ns.map V.bl
  | [], _, _, h, e => by
    rw [RFs] at h
    rw [boolsOf] at e; cases e
    exact h
  | .bool i :: ds, _, ns, h, e => by
    rw [RFs] at h
    obtain ⟨x, r, q, h1, h2⟩ := h
    rw [boolsOf] at e
    cases e2 : boolsOf ds with
    | none => rw [e2] at e; cases e
    | some ms =>
      rw [e2] at e; cases e
      rw [RF] at h1
      rw [q, h1, RFs.bools h2 e2]; rfl
  | .none :: _, _, _, _, e => by simp [boolsOf] at e
  | .int _ :: _, _, _, _, e => by simp [boolsOf] at e
  | .str _ :: _, _, _, _, e => by simp [boolsOf] at e
  | .list _ :: _, _, _, _, e => by simp [boolsOf] at e
  | .tuple _ :: _, _, _, _, e => by simp [boolsOf] at e
  | .dict _ :: _, _, _, _, e => by simp [boolsOf] at e
theorem RFs.strs : ∀ {ds : List Dt} {vs : List V} {ns : List Str}, RFs P w K H ds vs → strsOf ds = some ns → vs = ns.map V.str
  | [], _, _, h, e => by
    rw [RFs] at h
    rw [strsOf] at e; cases e
    exact h
  | .str i :: ds, _, ns, h, e => by
    rw [RFs] at h
    obtain ⟨x, r, q, h1, h2⟩ := h
    rw [strsOf] at e
    cases e2 : strsOf ds with
    | none => rw [e2] at e; cases e
    | some ms =>
      rw [e2] at e; cases e
      rw [RF] at h1
      rw [q, h1, RFs.strs h2 e2]; rfl
  | .none :: _, _, _, _, e => by simp [strsOf] at e
  | .int _ :: _, _, _, _, e => by simp [strsOf] at e
  | .bool _ :: _, _, _, _, e => by simp [strsOf] at e
  | .list _ :: _, _, _, _, e => by simp [strsOf] at e
  | .tuple _ :: _, _, _, _, e => by simp [strsOf] at e
  | .dict _ :: _, _, _, _, e => by simp [strsOf] at e
/-- data without dicts, as the layer reads it -/
theorem RF.dp : ∀ (d : Dt) (v : V), d.canLay0 = true → RF P w K H d v → Dp K H v d
  | .none, _, _, h => by rw [RF] at h; rw [h]; exact .non
  | .bool b, _, _, h => by rw [RF] at h; rw [h]; exact .bl b
  | .int i, _, _, h => by rw [RF] at h; rw [h]; exact .int i
  | .str x, _, _, h => by rw [RF] at h; rw [h]; exact .str x
  | .tuple ds, v, c, h => by
    rw [RF] at h
    obtain ⟨a, xs, e, s, r⟩ := h
    rw [e]
    exact .tup s (go ds xs (by simpa [PyData.canLay0] using c) r)
  | .list ds, v, c, h => by
    rw [RF] at h
    obtain ⟨a, xs, e, s, r⟩ := h
    rw [e]
    exact .lst (.inl s.rd) (go ds xs (by simpa [PyData.canLay0] using c) r)
  | .dict _, _, c, _ => by simp [PyData.canLay0] at c
where go : ∀ (ds : List Dt) (vs : List V), PyData.canLayAll0 ds = true → RFs P w K H ds vs → DpAll K H vs ds
  | [], _, _, h => by rw [RFs] at h; rw [h]; exact .nil
  | d :: ds, vs, c, h => by
    rw [RFs] at h
    obtain ⟨x, r, e, h1, h2⟩ := h
    rw [e]
    have c' : d.canLay0 = true ∧ PyData.canLayAll0 ds = true := by simpa [PyData.canLayAll0] using c
    exact .cons (RF.dp d x c'.1 h1) (go ds r c'.2 h2)
end
end EV
end

section
set_option autoImplicit false
set_option linter.all false
set_option maxRecDepth 100000
set_option Elab.async false
/-! EvSt: values, store and names against the abstract heap; steps; readings. -/
namespace EV
open PySem PySem.Spec PyProof.Rows L2

/-- what a context's relations hang on -/
structure Wd where
  P : Program
  w : World
  K : PySem.W.Frag
  mg : Str → Option Value
abbrev gx (X : Cx) : Wd := ⟨X.prog, X.w, X.K, X.mg⟩
abbrev Wd.F (G : Wd) (H : Hp) (d : Dt) (v : V) : Prop := RF G.P G.w G.K H d v
abbrev Wd.Fs (G : Wd) (H : Hp) (ds : List Dt) (vs : List V) : Prop := RFs G.P G.w G.K H ds vs
abbrev Wd.Fkv (G : Wd) (H : Hp) (ds : List (Dt × Dt)) (vs : List (V × V)) : Prop := RFkv G.P G.w G.K H ds vs
abbrev Loc_ := Nat → Addr

/-- an exception's object, as it is -/
def ExcO (a : Addr) (oe : Obj) : HO := .frz oe (.ext fun h => h.get? a = some oe)
/-- the fields of an exception, in its own dict -/
def FldOk (G : Wd) (H : Hp) (fs : List (Str × Dt)) (dx : Option Addr) : Prop :=
  fs = [] ∨ ∃ (f : Str) (x : Dt) (d : Addr) (v : V), fs = [(f, x)] ∧ dx = some d ∧ H d = some (.xd [(f, v)]) ∧ G.F H x v
/-- an error of the class cls with the dict dx is e -/
def ErrC (G : Wd) (H : Hp) (e : Val) (cls : Value) (dx : Option Addr) : Prop :=
  ∃ (c : Str) (fs : List (Str × Dt)) (C : Addr), e = .err c fs ∧ G.mg c = some (.ref C) ∧ cls = .ref C ∧ FldOk G H fs dx
/-- a value lies at v -/
def RV (G : Wd) (μ : Loc_) (st : Sto) (H : Hp) : Val → V → Prop
  | .d x, v => G.F H x v
  | .ref n, v => n < st.length ∧ v = .ref (μ n)
  | .err c fs, v => ∃ (a : Addr) (oe : Obj), v = .ref a ∧ H a = some (ExcO a oe) ∧ (∃ vs, oe.data = .fields vs) ∧ ErrC G H (.err c fs) oe.cls oe.dict
  | .fn x, v => ∃ f, G.mg x = some (.ref f) ∧ v = .ref f
def RVs (G : Wd) (μ : Loc_) (st : Sto) (H : Hp) : List Val → List V → Prop := Paired (RV G μ st H)
def CellOk (G : Wd) (μ : Loc_) (st : Sto) (H : Hp) (a : Addr) : Cell → Prop
  | .lst xs => ∃ vs, H a = some (.lst vs) ∧ G.Fs H xs vs
  | .dct kvs => ∃ es vs, H a = some (RawD a es) ∧ G.Fkv H kvs vs ∧ EntOk G.P G.w kvs vs es
  | .lsv xs => ∃ vs, H a = some (.lst vs) ∧ RVs G μ st H xs vs
  | .dcv kvs => ∃ ws, H a = some (.dK ws) ∧ Paired (fun (p : Str × Val) (q : Key × V) => q.1 = .inr p.1 ∧ RV G μ st H p.2 q.2) kvs ws
  | .fz x => G.F H x (.ref a)
  | .kl xs => ∃ vs, KL G.K a vs ∧ G.Fs H xs vs
/-- the store lies in the heap -/
structure SR (G : Wd) (μ : Loc_) (st : Sto) (H : Hp) : Prop where
  cell : ∀ (n : Nat) (c : Cell), st[n]? = some c → CellOk G μ st H (μ n) c
  inj : ∀ (n m : Nat) (c c' : Cell), st[n]? = some c → c.live = true → st[m]? = some c' → c'.live = true → μ n = μ m → n = m
/-- from one state to a later one -/
structure Step (μ : Loc_) (st : Sto) (H : Hp) (μ' : Loc_) (st' : Sto) (H' : Hp) : Prop where
  len : st.length ≤ st'.length
  mu : ∀ n, n < st.length → μ' n = μ n
  fz : ∀ b o, H b = some o → Fz o → H' b = some o
  keep : ∀ b o, H b = some o → (∀ (n : Nat) (c : Cell), st[n]? = some c → c.live = true → μ n ≠ b) → H' b = some o
  there : ∀ b o, H b = some o → ∃ o', H' b = some o'
  live : ∀ (n : Nat) (c' : Cell), st'[n]? = some c' → c'.live = true → (∃ c, st[n]? = some c ∧ c.live = true) ∨ H (μ' n) = none

/-- what rests goes on resting -/
structure Adv (μ : Loc_) (st : Sto) (H : Hp) (μ' : Loc_) (st' : Sto) (H' : Hp) : Prop where
  len : st.length ≤ st'.length
  mu : ∀ n, n < st.length → μ' n = μ n
  fz : ∀ b o, H b = some o → Fz o → H' b = some o
theorem Step.adv {μ μ' : Loc_} {st st' : Sto} {H H' : Hp} (a : Step μ st H μ' st' H') : Adv μ st H μ' st' H' := ⟨a.len, a.mu, a.fz⟩
theorem Adv.trans {μ μ' μ2 : Loc_} {st st' st2 : Sto} {H H' H2 : Hp} (a : Adv μ st H μ' st' H') (b : Adv μ' st' H' μ2 st2 H2) : Adv μ st H μ2 st2 H2 :=
  ⟨Nat.le_trans a.len b.len, fun n h => (b.mu n (Nat.lt_of_lt_of_le h a.len)).trans (a.mu n h), fun c o h f => b.fz c o (a.fz c o h f) f⟩
theorem Step.refl (μ : Loc_) (st : Sto) (H : Hp) : Step μ st H μ st H :=
  ⟨Nat.le_refl _, fun _ _ => rfl, fun _ _ h _ => h, fun _ _ h _ => h, fun _ o h => ⟨o, h⟩, fun n c h l => .inl ⟨c, h, l⟩⟩
theorem Step.trans {μ μ' μ2 : Loc_} {st st' st2 : Sto} {H H' H2 : Hp} (a : Step μ st H μ' st' H') (b : Step μ' st' H' μ2 st2 H2) : Step μ st H μ2 st2 H2 where
  len := Nat.le_trans a.len b.len
  mu := fun n h => (b.mu n (Nat.lt_of_lt_of_le h a.len)).trans (a.mu n h)
  fz := fun c o h f => b.fz c o (a.fz c o h f) f
  keep := fun c o h nl => b.keep c o (a.keep c o h nl) fun n k e l => by
    rcases a.live n k e l with ⟨k0, e0, l0⟩ | z
    · have hn : n < st.length := (List.getElem?_eq_some_iff.mp e0).1
      rw [a.mu n hn]
      exact nl n k0 e0 l0
    · intro q
      rw [q, h] at z; cases z
  there := fun c o h => let ⟨o1, h1⟩ := a.there c o h; b.there c o1 h1
  live := fun n k e l => by
    rcases b.live n k e l with ⟨k0, e0, l0⟩ | z
    · have hn : n < st'.length := (List.getElem?_eq_some_iff.mp e0).1
      rcases a.live n k0 e0 l0 with z | z
      · exact .inl z
      · exact .inr (by rw [b.mu n hn]; exact z)
    · refine .inr ?_
      cases q : H (μ2 n) with
      | none => rfl
      | some o =>
        obtain ⟨o', h'⟩ := a.there _ o q
        rw [h'] at z; cases z

/-- the heap has grown, all that stood stands -/
def Grown (H H' : Hp) : Prop := ∀ b o, H b = some o → H' b = some o
theorem Grown.refl (H : Hp) : Grown H H := fun _ _ h => h
theorem Grown.trans {H H1 H2 : Hp} (a : Grown H H1) (b : Grown H1 H2) : Grown H H2 := fun c o h => b c o (a c o h)
theorem Grown.new {H : Hp} {p : Addr} {o : HO} (h : H p = none) : Grown H (upd H p o) := fun b u e => by
  rw [upd_ne (ne_of_none e h)]; exact e
theorem Grown.new2 {H : Hp} {p : Addr} {o o' : HO} (h : H p = none) : Grown H (upd (upd H p o) p o') := fun b u e => by
  rw [upd_ne (ne_of_none e h), upd_ne (ne_of_none e h)]; exact e
theorem Grown.step {μ : Loc_} {st : Sto} {H H' : Hp} (g : Grown H H') : Step μ st H μ st H' :=
  ⟨Nat.le_refl _, fun _ _ => rfl, fun _ _ h _ => g _ _ h, fun _ _ h _ => g _ _ h, fun b o h => ⟨o, g b o h⟩, fun n c h l => .inl ⟨c, h, l⟩⟩

section
variable {G : Wd} {μ μ' : Loc_} {st st' : Sto} {H H' : Hp}
theorem FldOk.mono {fs : List (Str × Dt)} {dx : Option Addr} (m : ∀ b o, H b = some o → Fz o → H' b = some o) (h : FldOk G H fs dx) : FldOk G H' fs dx := by
  rcases h with h | ⟨f, x, d, v, e1, e2, e3, r⟩
  · exact .inl h
  · exact .inr ⟨f, x, d, v, e1, e2, m _ _ e3 trivial, r.mono m x v⟩
theorem ErrC.mono {e : Val} {cls : Value} {dx : Option Addr} (m : ∀ b o, H b = some o → Fz o → H' b = some o) (h : ErrC G H e cls dx) : ErrC G H' e cls dx := by
  obtain ⟨c, fs, C, e1, e2, e3, f⟩ := h
  exact ⟨c, fs, C, e1, e2, e3, f.mono m⟩
theorem RV.adv {v : Val} {x : V} (s : Adv μ st H μ' st' H') (h : RV G μ st H v x) : RV G μ' st' H' v x := by
  cases v with
  | d y => exact RF.mono s.fz y x h
  | ref n => exact ⟨Nat.lt_of_lt_of_le h.1 s.len, by rw [s.mu n h.1]; exact h.2⟩
  | err c fs =>
    obtain ⟨a, oe, e1, e2, e3, e4⟩ := h
    exact ⟨a, oe, e1, s.fz _ _ e2 trivial, e3, e4.mono s.fz⟩
  | fn y => exact h
theorem RV.step {v : Val} {x : V} (s : Step μ st H μ' st' H') (h : RV G μ st H v x) : RV G μ' st' H' v x := h.adv s.adv
theorem RVs.step {vs : List Val} {xs : List V} (s : Step μ st H μ' st' H') (h : RVs G μ st H vs xs) : RVs G μ' st' H' vs xs := Paired.mapP h fun _ _ r => r.step s
/-- the relation asks of the store its length alone -/
theorem RV.len {v : Val} {x : V} (hl : st.length ≤ st'.length) (h : RV G μ st H v x) : RV G μ st' H v x := by
  cases v with
  | ref n => exact ⟨Nat.lt_of_lt_of_le h.1 hl, h.2⟩
  | d y => exact h
  | err c fs => exact h
  | fn y => exact h
theorem CellOk.grown {a : Addr} {c : Cell} (g : Grown H H') (h : CellOk G μ st H a c) : CellOk G μ st H' a c := by
  have m : ∀ b o, H b = some o → Fz o → H' b = some o := fun b o e _ => g b o e
  cases c with
  | lst xs => obtain ⟨vs, e, r⟩ := h; exact ⟨vs, g _ _ e, RFs.mono m xs vs r⟩
  | dct kvs => obtain ⟨es, vs, e, r, t⟩ := h; exact ⟨es, vs, g _ _ e, RFkv.mono m kvs vs r, t⟩
  | lsv xs => obtain ⟨vs, e, r⟩ := h; exact ⟨vs, g _ _ e, Paired.mapP r fun _ _ q => q.step g.step⟩
  | dcv kvs => obtain ⟨ws, e, r⟩ := h; exact ⟨ws, g _ _ e, Paired.mapP r fun _ _ q => ⟨q.1, q.2.step g.step⟩⟩
  | fz x => exact RF.mono m x _ h
  | kl xs => obtain ⟨vs, e, r⟩ := h; exact ⟨vs, e, RFs.mono m xs vs r⟩
theorem SR.grown (g : Grown H H') (h : SR G μ st H) : SR G μ st H' := ⟨fun n c e => (h.cell n c e).grown g, h.inj⟩
theorem SR.live_mut (h : SR G μ st H) {n : Nat} {c : Cell} (e : st[n]? = some c) (l : c.live = true) : ∃ o, H (μ n) = some o ∧ Mut (some o) ∧ ¬ Fz o := by
  have x := h.cell n c e
  cases c with
  | lst xs => obtain ⟨vs, q, _⟩ := x; exact ⟨_, q, trivial, fun z => z⟩
  | dct kvs => obtain ⟨es, vs, q, _⟩ := x; exact ⟨_, q, trivial, fun z => z⟩
  | lsv xs => obtain ⟨vs, q, _⟩ := x; exact ⟨_, q, trivial, fun z => z⟩
  | dcv kvs => obtain ⟨ws, q, _⟩ := x; exact ⟨_, q, trivial, fun z => z⟩
  | fz x => cases l
  | kl x => cases l
/-- a new object of the store -/
def locAt (μ : Loc_) (n : Nat) (p : Addr) : Loc_ := fun m => if m = n then p else μ m
theorem locAt_same {μ : Loc_} {n : Nat} {p : Addr} : locAt μ n p n = p := if_pos rfl
theorem locAt_ne {μ : Loc_} {n m : Nat} {p : Addr} (h : m ≠ n) : locAt μ n p m = μ m := if_neg h
theorem Step.alloc {p : Addr} {c : Cell} (hp : H p = none) (g : Grown H H') : Step μ st H (locAt μ st.length p) (st ++ [c]) H' where
  len := by simp
  mu := fun n h => locAt_ne (Nat.ne_of_lt h)
  fz := fun b o e _ => g b o e
  keep := fun b o e _ => g b o e
  there := fun b o e => ⟨o, g b o e⟩
  live := fun n c' e l => by
    by_cases hn : n < st.length
    · rw [List.getElem?_append_left hn] at e
      exact .inl ⟨c', e, l⟩
    · have : n = st.length := by
        have := (List.getElem?_eq_some_iff.mp e).1
        rw [List.length_append, List.length_singleton] at this
        omega
      subst this
      exact .inr (by rw [locAt_same]; exact hp)
theorem CellOk.step {a : Addr} {c : Cell} (s : Step μ st H μ' st' H') (hk : ∀ o, H a = some o → H' a = some o) (h : CellOk G μ st H a c) : CellOk G μ' st' H' a c := by
  cases c with
  | lst xs => obtain ⟨vs, e, r⟩ := h; exact ⟨vs, hk _ e, RFs.mono s.fz xs vs r⟩
  | dct kvs => obtain ⟨es, vs, e, r, t⟩ := h; exact ⟨es, vs, hk _ e, RFkv.mono s.fz kvs vs r, t⟩
  | lsv xs => obtain ⟨vs, e, r⟩ := h; exact ⟨vs, hk _ e, Paired.mapP r fun _ _ q => q.step s⟩
  | dcv kvs => obtain ⟨ws, e, r⟩ := h; exact ⟨ws, hk _ e, Paired.mapP r fun _ _ q => ⟨q.1, q.2.step s⟩⟩
  | fz x => exact RF.mono s.fz x _ h
  | kl xs => obtain ⟨vs, e, r⟩ := h; exact ⟨vs, e, RFs.mono s.fz xs vs r⟩
theorem SR.alloc {p : Addr} {c : Cell} (h : SR G μ st H) (hp : H p = none) (g : Grown H H') (hc : CellOk G (locAt μ st.length p) (st ++ [c]) H' p c) : SR G (locAt μ st.length p) (st ++ [c]) H' := by
  have s : Step μ st H (locAt μ st.length p) (st ++ [c]) H' := .alloc hp g
  have cut : ∀ (n : Nat) (k : Cell), (st ++ [c])[n]? = some k → (n < st.length ∧ st[n]? = some k) ∨ (n = st.length ∧ k = c) := fun n k e => by
    by_cases hn : n < st.length
    · rw [List.getElem?_append_left hn] at e; exact .inl ⟨hn, e⟩
    · have h2 := (List.getElem?_eq_some_iff.mp e).1
      rw [List.length_append, List.length_singleton] at h2
      have : n = st.length := by omega
      subst this
      simp at e
      exact .inr ⟨rfl, e.symm⟩
  refine ⟨fun n k e => ?_, fun n m k k' e l e' l' q => ?_⟩
  · rcases cut n k e with ⟨hn, e1⟩ | ⟨rfl, rfl⟩
    · rw [locAt_ne (Nat.ne_of_lt hn)]
      exact (h.cell n k e1).step s fun o z => g _ _ z
    · rw [locAt_same]; exact hc
  · rcases cut n k e with ⟨hn, e1⟩ | ⟨rfl, rfl⟩ <;> rcases cut m k' e' with ⟨hm, e2⟩ | ⟨rfl, rfl⟩
    · rw [locAt_ne (Nat.ne_of_lt hn), locAt_ne (Nat.ne_of_lt hm)] at q
      exact h.inj n m k k' e1 l e2 l' q
    · rw [locAt_ne (Nat.ne_of_lt hn), locAt_same] at q
      obtain ⟨o, z, _⟩ := h.live_mut e1 l
      rw [q, hp] at z; cases z
    · rw [locAt_ne (Nat.ne_of_lt hm), locAt_same] at q
      obtain ⟨o, z, _⟩ := h.live_mut e2 l'
      rw [← q, hp] at z; cases z
    · rfl
/-- a living object changes -/
theorem Step.put {n : Nat} {c c' : Cell} {u : HO} (h : SR G μ st H) (e : st[n]? = some c) (l : c.live = true) : Step μ st H μ (st.set n c') (upd H (μ n) u) where
  len := by simp
  mu := fun _ _ => rfl
  fz := fun b o q f => by
    obtain ⟨o', z, _, nf⟩ := h.live_mut e l
    rw [upd_ne (fun y => by rw [y, z] at q; cases q; exact nf f)]
    exact q
  keep := fun b o q nl => by rw [upd_ne (Ne.symm (nl n c e l))]; exact q
  there := fun b o q => by
    by_cases hb : b = μ n
    · exact ⟨u, by rw [hb, upd_same]⟩
    · exact ⟨o, by rw [upd_ne hb]; exact q⟩
  live := fun m k q lk => by
    rw [List.getElem?_set] at q
    split at q
    · rename_i hm
      subst hm
      exact .inl ⟨c, e, l⟩
    · exact .inl ⟨k, q, lk⟩
theorem SR.put {n : Nat} {c c' : Cell} {u : HO} (h : SR G μ st H) (e : st[n]? = some c) (l : c.live = true) (hc : CellOk G μ (st.set n c') (upd H (μ n) u) (μ n) c') : SR G μ (st.set n c') (upd H (μ n) u) := by
  have s : Step μ st H μ (st.set n c') (upd H (μ n) u) := Step.put h e l
  have hn : n < st.length := (List.getElem?_eq_some_iff.mp e).1
  have cut : ∀ (m : Nat) (k : Cell), (st.set n c')[m]? = some k → (m = n ∧ k = c') ∨ (m ≠ n ∧ st[m]? = some k) := fun m k q => by
    rw [List.getElem?_set] at q
    split at q
    · rename_i hm
      subst hm
      cases q
      exact .inl ⟨rfl, rfl⟩
    · rename_i hm
      exact .inr ⟨fun z => hm z.symm, q⟩
  refine ⟨fun m k q => ?_, fun m j k k' q lk q' lk' z => ?_⟩
  · rcases cut m k q with ⟨rfl, rfl⟩ | ⟨hm, q1⟩
    · exact hc
    · have ck := h.cell m k q1
      cases hl : k.live with
      | false =>
        cases k with
        | fz x => exact RF.mono s.fz x _ ck
        | kl xs => obtain ⟨vs, e, r⟩ := ck; exact ⟨vs, e, RFs.mono s.fz xs vs r⟩
        | _ => cases hl
      | true =>
        have ne : μ m ≠ μ n := fun z => hm (h.inj m n k c q1 hl e l z)
        exact ck.step s fun o z => by rw [upd_ne ne]; exact z
  · have lv : ∀ (m : Nat) (k : Cell), (st.set n c')[m]? = some k → k.live = true → ∃ k0, st[m]? = some k0 ∧ k0.live = true := fun m k q lk => by
      rcases cut m k q with ⟨rfl, rfl⟩ | ⟨_, q1⟩
      · exact ⟨c, e, l⟩
      · exact ⟨k, q1, lk⟩
    obtain ⟨k0, a1, a2⟩ := lv m k q lk
    obtain ⟨k1, b1, b2⟩ := lv j k' q' lk'
    exact h.inj m j k0 k1 a1 a2 b1 b2 z
end

/-- the names of a frame -/
def EnvOk (G : Wd) (μ : Loc_) (st : Sto) (H : Hp) (ρ : Env) (σ : L2.St) : Prop :=
  ρ.length = σ.length ∧ ∀ (i : Nat) (v : Val), ρ[i]? = some (some v) → ∃ x, σ[i]? = some (some x) ∧ RV G μ st H v x
section
variable {G : Wd} {μ μ' : Loc_} {st st' : Sto} {H H' : Hp} {ρ : Env} {σ : L2.St}
theorem EnvOk.step (s : Step μ st H μ' st' H') (h : EnvOk G μ st H ρ σ) : EnvOk G μ' st' H' ρ σ :=
  ⟨h.1, fun i v e => let ⟨x, e', r⟩ := h.2 i v e; ⟨x, e', r.step s⟩⟩
theorem EnvOk.adv (s : Adv μ st H μ' st' H') (h : EnvOk G μ st H ρ σ) : EnvOk G μ' st' H' ρ σ :=
  ⟨h.1, fun i v e => let ⟨x, e', r⟩ := h.2 i v e; ⟨x, e', r.adv s⟩⟩
theorem EnvOk.set (h : EnvOk G μ st H ρ σ) {v : Val} {x : V} (r : RV G μ st H v x) (i : Nat) : EnvOk G μ st H (ρ.set i (some v)) (σ.set i (some x)) := by
  refine ⟨by simp [h.1], fun j u e => ?_⟩
  rw [List.getElem?_set] at e ⊢
  split at e
  · rename_i hj
    rw [if_pos hj]
    split at e
    · rename_i hi
      rw [h.1] at hi
      rw [if_pos hi]
      cases e
      exact ⟨x, rfl, r⟩
    · cases e
  · rename_i hj
    rw [if_neg hj]
    exact h.2 j u e
theorem EnvOk.unset (h : EnvOk G μ st H ρ σ) (i : Nat) : EnvOk G μ st H (ρ.set i none) (σ.set i none) := by
  refine ⟨by simp [h.1], fun j u e => ?_⟩
  rw [List.getElem?_set] at e ⊢
  split at e
  · split at e <;> cases e
  · rename_i hj
    rw [if_neg hj]
    exact h.2 j u e
theorem EnvOk.wipe (h : EnvOk G μ st H ρ σ) : ∀ is : List Nat, EnvOk G μ st H (wipeE ρ is) (L2.wipe σ is)
  | [] => h
  | i :: is => (h.wipe is).unset i
/-- a name less is known -/
theorem EnvOk.weak {ρ' : Env} (h : EnvOk G μ st H ρ σ) (hl : ρ'.length = ρ.length) (hw : ∀ (i : Nat) (v : Val), ρ'[i]? = some (some v) → ρ[i]? = some (some v)) : EnvOk G μ st H ρ' σ :=
  ⟨hl.trans h.1, fun i v e => h.2 i v (hw i v e)⟩
end

/-! ### what a value reads as -/
/-- x lies at v at this time, no list of the written part -/
def RT2 (G : Wd) (H : Hp) (x : Dt) (v : V) : Prop :=
  G.F H x v ∨ (∃ a vs ds, x = .list ds ∧ v = .ref a ∧ H a = some (.lst vs) ∧ G.Fs H ds vs) ∨
    (∃ a es vs kvs, x = .dict kvs ∧ v = .ref a ∧ H a = some (RawD a es) ∧ G.Fkv H kvs vs ∧ EntOk G.P G.w kvs vs es)
/-- x lies at v at this time -/
def RT (G : Wd) (H : Hp) (x : Dt) (v : V) : Prop := RT2 G H x v ∨ ∃ a vs ds, x = .list ds ∧ v = .ref a ∧ KL G.K a vs ∧ G.Fs H ds vs
section
variable {G : Wd} {μ μ' : Loc_} {st st' : Sto} {H H' : Hp}
theorem RT2.grown {x : Dt} {v : V} (g : Grown H H') (h : RT2 G H x v) : RT2 G H' x v := by
  have m : ∀ b o, H b = some o → Fz o → H' b = some o := fun b o e _ => g b o e
  rcases h with h | ⟨a, vs, ds, e1, e2, e3, r⟩ | ⟨a, es, vs, kvs, e1, e2, e3, r, t⟩
  · exact .inl (RF.mono m x v h)
  · exact .inr (.inl ⟨a, vs, ds, e1, e2, g _ _ e3, RFs.mono m ds vs r⟩)
  · exact .inr (.inr ⟨a, es, vs, kvs, e1, e2, g _ _ e3, RFkv.mono m kvs vs r, t⟩)
theorem SR.look2 (s : SR G μ st H) {v : Val} {x : V} {y : Dt} (r : RV G μ st H v x) (e : EV.look2 st v = some y) : RT2 G H y x := by
  cases v with
  | d z => cases e; exact .inl r
  | ref n =>
    obtain ⟨hn, rfl⟩ := r
    have e' : (st[n]?).bind Cell.dat2 = some y := e
    cases q : st[n]? with
    | none => rw [q] at e'; cases e'
    | some c =>
      rw [q] at e'
      have ck := s.cell n c q
      cases c with
      | lst xs =>
        have e2 : some (PyData.list xs) = some y := e'
        cases e2
        obtain ⟨vs, h1, h2⟩ := ck
        exact .inr (.inl ⟨_, vs, xs, rfl, rfl, h1, h2⟩)
      | dct kvs =>
        have e2 : some (PyData.dict kvs) = some y := e'
        cases e2
        obtain ⟨es, vs, h1, h2, h3⟩ := ck
        exact .inr (.inr ⟨_, es, vs, kvs, rfl, rfl, h1, h2, h3⟩)
      | kl xs => cases e'
      | lsv xs => cases e'
      | dcv kvs => cases e'
      | fz x =>
        have e2 : some x = some y := e'
        cases e2
        exact .inl ck
  | err c fs => cases e
  | fn z => cases e
/-- a list that is read -/
theorem RT2.list {ds : List Dt} {v : V} (h : RT2 G H (.list ds) v) : ∃ a vs, v = .ref a ∧ Rd H a (.lst vs) ∧ G.Fs H ds vs := by
  rcases h with h | ⟨a, vs, ds', e1, e2, e3, r⟩ | ⟨a, es, vs, kvs, e1, _⟩
  · have h' : RF G.P G.w G.K H (.list ds) v := h
    rw [RF] at h'
    obtain ⟨a, xs, e, s, r⟩ := h'
    exact ⟨a, xs, e, s.rd, r⟩
  · cases e1
    exact ⟨a, vs, e2, .inl e3, r⟩
  · cases e1
theorem RT2.tuple {ds : List Dt} {v : V} (h : RT2 G H (.tuple ds) v) : ∃ a vs, v = .ref a ∧ SqT G.K H a vs ∧ G.Fs H ds vs := by
  rcases h with h | ⟨a, vs, ds', e1, e2, e3, r⟩ | ⟨a, es, vs, kvs, e1, _⟩
  · have h' : RF G.P G.w G.K H (.tuple ds) v := h
    rw [RF] at h'
    exact h'
  · cases e1
  · cases e1
theorem RT2.int {i : Int} {v : V} (h : RT2 G H (.int i) v) : v = .int i := by
  rcases h with h | ⟨a, vs, ds', e1, _⟩ | ⟨a, es, vs, kvs, e1, _⟩
  · have h' : RF G.P G.w G.K H (.int i) v := h
    rw [RF] at h'; exact h'
  · cases e1
  · cases e1
theorem RT2.bool {i : Bool} {v : V} (h : RT2 G H (.bool i) v) : v = .bl i := by
  rcases h with h | ⟨a, vs, ds', e1, _⟩ | ⟨a, es, vs, kvs, e1, _⟩
  · have h' : RF G.P G.w G.K H (.bool i) v := h
    rw [RF] at h'; exact h'
  · cases e1
  · cases e1
theorem RT2.str {i : Str} {v : V} (h : RT2 G H (.str i) v) : v = .str i := by
  rcases h with h | ⟨a, vs, ds', e1, _⟩ | ⟨a, es, vs, kvs, e1, _⟩
  · have h' : RF G.P G.w G.K H (.str i) v := h
    rw [RF] at h'; exact h'
  · cases e1
  · cases e1
theorem RT2.none {v : V} (h : RT2 G H .none v) : v = .non := by
  rcases h with h | ⟨a, vs, ds', e1, _⟩ | ⟨a, es, vs, kvs, e1, _⟩
  · have h' : RF G.P G.w G.K H .none v := h
    rw [RF] at h'; exact h'
  · cases e1
  · cases e1
/-- a dict that is read: at rest or not -/
theorem RT2.dict {kvs : List (Dt × Dt)} {v : V} (h : RT2 G H (.dict kvs) v) : ∃ a es vs, v = .ref a ∧ Rd H a (RawD a es) ∧ G.Fkv H kvs vs ∧ EntOk G.P G.w kvs vs es := by
  rcases h with h | ⟨a, vs, ds', e1, _⟩ | ⟨a, es, vs, kvs', e1, e2, e3, r, t⟩
  · have h' : RF G.P G.w G.K H (.dict kvs) v := h
    rw [RF] at h'
    obtain ⟨a, o, es, vs, e, q, r, t⟩ := h'
    exact ⟨a, es, vs, e, .inr ⟨o, q⟩, r, t⟩
  · cases e1
  · cases e1
    exact ⟨a, es, vs, e2, .inl e3, r, t⟩
theorem RT2.dp {x : Dt} {v : V} (c : x.canLay0 = true) (h : RT2 G H x v) : Dp G.K H v x := by
  rcases h with h | ⟨a, vs, ds, e1, e2, e3, r⟩ | ⟨a, es, vs, kvs, e1, _⟩
  · exact RF.dp x v c h
  · subst e1 e2
    exact .lst (.inl (.inl e3)) (RF.dp.go ds vs (by simpa [PyData.canLay0] using c) r)
  · subst e1
    simp [PyData.canLay0] at c
theorem RT.grown {x : Dt} {v : V} (g : Grown H H') (h : RT G H x v) : RT G H' x v := by
  rcases h with h | ⟨a, vs, ds, e1, e2, k, r⟩
  · exact .inl (h.grown g)
  · exact .inr ⟨a, vs, ds, e1, e2, k, RFs.mono (fun b o e _ => g b o e) ds vs r⟩
theorem SR.look (s : SR G μ st H) {v : Val} {x : V} {y : Dt} (r : RV G μ st H v x) (e : EV.look st v = some y) : RT G H y x := by
  cases v with
  | d z => cases e; exact .inl (.inl r)
  | ref n =>
    cases q : st[n]? with
    | none =>
      have e' : (st[n]?).bind Cell.dat = some y := e
      rw [q] at e'; cases e'
    | some c =>
      cases c with
      | kl xs =>
        have e' : (st[n]?).bind Cell.dat = some y := e
        rw [q] at e'
        have e2 : some (PyData.list xs) = some y := e'
        cases e2
        obtain ⟨vs, k, f⟩ := s.cell n _ q
        exact .inr ⟨_, vs, xs, rfl, r.2, k, f⟩
      | _ =>
        refine .inl (s.look2 r ?_)
        have e' : (st[n]?).bind Cell.dat = some y := e
        show (st[n]?).bind Cell.dat2 = some y
        rw [q] at e' ⊢
        exact e'
  | err c fs => cases e
  | fn z => cases e
theorem RT.two {x : Dt} {v : V} (h : RT G H x v) (n : ∀ ds, x ≠ .list ds) : RT2 G H x v := by
  rcases h with h | ⟨a, vs, ds, e1, _⟩
  · exact h
  · exact absurd e1 (n ds)
theorem RT.of {x : Dt} {v : V} (h : G.F H x v) : RT G H x v := .inl (.inl h)
theorem RT.list {ds : List Dt} {v : V} (h : RT G H (.list ds) v) : ∃ a vs, v = .ref a ∧ SqL G.K H a vs ∧ G.Fs H ds vs := by
  rcases h with h | ⟨a, vs, ds', e1, e2, k, r⟩
  · obtain ⟨a, vs, e, q, r⟩ := h.list
    exact ⟨a, vs, e, .inl q, r⟩
  · cases e1
    exact ⟨a, vs, e2, .inr k, r⟩
theorem RT.dp {x : Dt} {v : V} (c : x.canLay0 = true) (h : RT G H x v) : Dp G.K H v x := by
  rcases h with h | ⟨a, vs, ds, e1, e2, k, r⟩
  · exact h.dp c
  · subst e1 e2
    exact .lst (.inr k) (RF.dp.go ds vs (by simpa [PyData.canLay0] using c) r)
theorem RT.tuple {ds : List Dt} {v : V} (h : RT G H (.tuple ds) v) : ∃ a vs, v = .ref a ∧ SqT G.K H a vs ∧ G.Fs H ds vs := (h.two fun _ z => nomatch z).tuple
theorem RT.int {i : Int} {v : V} (h : RT G H (.int i) v) : v = .int i := (h.two fun _ z => nomatch z).int
theorem RT.bool {i : Bool} {v : V} (h : RT G H (.bool i) v) : v = .bl i := (h.two fun _ z => nomatch z).bool
theorem RT.str {i : Str} {v : V} (h : RT G H (.str i) v) : v = .str i := (h.two fun _ z => nomatch z).str
theorem RT.none {v : V} (h : RT G H .none v) : v = .non := (h.two fun _ z => nomatch z).none
theorem RT.dict {kvs : List (Dt × Dt)} {v : V} (h : RT G H (.dict kvs) v) : ∃ a es vs, v = .ref a ∧ Rd H a (RawD a es) ∧ G.Fkv H kvs vs ∧ EntOk G.P G.w kvs vs es := (h.two fun _ z => nomatch z).dict
end


/-! ### what is wanted behind a piece -/
def Post {α : Type} (G : Wd) (W : Value → Option Addr → Hp → Prop) (μ : Loc_) (st : Sto) (H : Hp) (r : Res α) (k : α → Loc_ → Sto → Hp → Prop) : Prop :=
  match r with
  | .ok a st' => ∀ μ' H', Step μ st H μ' st' H' → SR G μ' st' H' → k a μ' st' H'
  | .err e st' => ∀ μ' H' cls dx, Step μ st H μ' st' H' → SR G μ' st' H' → ErrC G H' e cls dx → W cls dx H'
  | .bad => False
section
variable {α β : Type} {G : Wd} {W : Value → Option Addr → Hp → Prop} {μ : Loc_} {st : Sto} {H : Hp} {k : α → Loc_ → Sto → Hp → Prop}
theorem Post.imp {r : Res α} {k' : α → Loc_ → Sto → Hp → Prop} (h : Post G W μ st H r k) (f : ∀ a μ' st' H', Step μ st H μ' st' H' → SR G μ' st' H' → k a μ' st' H' → k' a μ' st' H') : Post G W μ st H r k' := by
  cases r with
  | ok a st' => exact fun μ' H' s sr => f a μ' st' H' s sr (h μ' H' s sr)
  | err e st' => exact h
  | bad => exact h
theorem Post.later {r : Res α} {μ' : Loc_} {st' : Sto} {H' : Hp} (s : Step μ st H μ' st' H') (h : Post G W μ st H r k) : Post G W μ' st' H' r k := by
  cases r with
  | ok a st2 => exact fun μ2 H2 s2 sr => h μ2 H2 (s.trans s2) sr
  | err e st2 => exact fun μ2 H2 cls dx s2 sr => h μ2 H2 cls dx (s.trans s2) sr
  | bad => exact h
/-- one behind the other -/
theorem Post.bnd {m : M α} {f : α → M β} {k : β → Loc_ → Sto → Hp → Prop} (h : Post G W μ st H (EV.bnd m f st) k) : Post G W μ st H (m st) fun a μ' st' H' => Post G W μ' st' H' (f a st') k := by
  unfold EV.bnd at h
  cases e : m st with
  | ok a st' =>
    rw [e] at h
    exact fun μ' H' s sr => Post.later s h
  | err x st' =>
    rw [e] at h
    exact h
  | bad =>
    rw [e] at h
    exact h
theorem Post.ret {a : α} (sr : SR G μ st H) (h : Post G W μ st H (EV.ret a st) k) : k a μ st H := h μ H (.refl _ _ _) sr
theorem Post.opt {o : Option α} {f : α → M β} {k : β → Loc_ → Sto → Hp → Prop} (h : Post G W μ st H (EV.bnd (EV.opt o) f st) k) : ∃ a, o = some a ∧ Post G W μ st H (f a st) k := by
  cases o with
  | none => exact h.elim
  | some a => exact ⟨a, rfl, h⟩
theorem Post.dat {v : Val} {f : Dt → M β} {k : β → Loc_ → Sto → Hp → Prop} (h : Post G W μ st H (EV.bnd (EV.dat v) f st) k) : ∃ x, EV.look st v = some x ∧ Post G W μ st H (f x st) k := by
  unfold EV.bnd EV.dat at h
  cases e : EV.look st v with
  | none => rw [e] at h; exact h.elim
  | some x => rw [e] at h; exact ⟨x, rfl, h⟩
theorem Post.dat2 {v : Val} {f : Dt → M β} {k : β → Loc_ → Sto → Hp → Prop} (h : Post G W μ st H (EV.bnd (EV.dat2 v) f st) k) : ∃ x, EV.look2 st v = some x ∧ Post G W μ st H (f x st) k := by
  unfold EV.bnd EV.dat2 at h
  cases e : EV.look2 st v with
  | none => rw [e] at h; exact h.elim
  | some x => rw [e] at h; exact ⟨x, rfl, h⟩
theorem Post.pureD {v : Val} {f : Dt → M β} {k : β → Loc_ → Sto → Hp → Prop} (h : Post G W μ st H (EV.bnd (EV.pureD v) f st) k) : ∃ x, v = .d x ∧ Post G W μ st H (f x st) k := by
  obtain ⟨x, e, h⟩ := Post.opt h
  cases v with
  | d y => cases e; exact ⟨_, rfl, h⟩
  | ref n => cases e
  | err c fs => cases e
  | fn y => cases e
end
/-- an expression's reading: W is what is wanted of an error -/
def RdE (G : Wd) (W : WX) (m : Env → M Val) : TE := fun σ H Q => ∃ ρ st μ, EnvOk G μ st H ρ σ ∧ SR G μ st H ∧ Post G (fun c d H' => W c d σ H') μ st H (m ρ st) fun v μ' st' H' => ∀ x, RV G μ' st' H' v x → Q x H'
def RdA (G : Wd) (W : WX) (m : Env → M (List Val)) : TA := fun σ H Q => ∃ ρ st μ, EnvOk G μ st H ρ σ ∧ SR G μ st H ∧ Post G (fun c d H' => W c d σ H') μ st H (m ρ st) fun vs μ' st' H' => ∀ xs, RVs G μ' st' H' vs xs → Q xs H'
def RdT (G : Wd) (W : WX) (m : Env → M Bool) : TT := fun σ H Q => ∃ ρ st μ, EnvOk G μ st H ρ σ ∧ SR G μ st H ∧ Post G (fun c d H' => W c d σ H') μ st H (m ρ st) fun b _ _ H' => Q b H'
theorem _root_.L2.PE.imp {X : Cx} {e : Expr} {t u : TE} (h : PE X e t) (f : ∀ σ H Q, u σ H Q → t σ H Q) : PE X e u := ⟨fun pins s σ H Q I q => h.run pins s σ H Q I (f σ H Q q)⟩
theorem _root_.L2.PT.imp {X : Cx} {e : Expr} {t u : TT} (h : PT X e t) (f : ∀ σ H Q, u σ H Q → t σ H Q) : PT X e u := ⟨fun pins s σ H Q I q => h.run pins s σ H Q I (f σ H Q q)⟩
theorem _root_.L2.PW.imp {X : Cx} {e : Expr} {t u : TT} (h : PW X e t) (f : ∀ σ H Q, u σ H Q → t σ H Q) : PW X e u := ⟨fun wh pins s σ H Q I q => h.run wh pins s σ H Q I (f σ H Q q)⟩
theorem _root_.L2.PA.imp {X : Cx} {e : List Expr} {t u : TA} (h : PA X e t) (f : ∀ σ H Q, u σ H Q → t σ H Q) : PA X e u := ⟨fun p pins s σ H Q I q => h.run p pins s σ H Q I (f σ H Q q)⟩
theorem _root_.L2.PS.imp {X : Cx} {e : Stmt} {t u : TS} (h : PS X e t) (f : ∀ D σ H, u D σ H → t D σ H) : PS X e u := ⟨fun pins s σ H D I q => h.run pins s σ H D I (f D σ H q)⟩
theorem _root_.L2.PSs.imp {X : Cx} {e : List Stmt} {t u : TS} (h : PSs X e t) (f : ∀ D σ H, u D σ H → t D σ H) : PSs X e u := ⟨fun pins s σ H D I q => h.run pins s σ H D I (f D σ H q)⟩
/-- two pieces, one behind the other, in the frame's names -/
theorem rd2 {G : Wd} {W : WX} {a b : Env → M Val} {f : Val → Val → M Val} {σ : L2.St} {H : Hp} {Q : VK} {R : V → V → Hp → Prop}
    (h : RdE G W (fun ρ => bnd (a ρ) fun v => bnd (b ρ) fun w => f v w) σ H Q)
    (g : ∀ v w μ st H2 x y, SR G μ st H2 → RV G μ st H2 v x → RV G μ st H2 w y → Post G (fun c d H' => W c d σ H') μ st H2 (f v w st) (fun v μ' st' H' => ∀ x, RV G μ' st' H' v x → Q x H') → R x y H2) :
    RdE G W a σ H fun x H1 => RdE G W b σ H1 fun y H2 => R x y H2 := by
  obtain ⟨ρ, st, μ, en, sr, p⟩ := h
  refine ⟨ρ, st, μ, en, sr, (Post.bnd p).imp fun v μ1 st1 H1 s1 sr1 q1 x rx => ⟨ρ, st1, μ1, en.step s1, sr1, (Post.bnd q1).imp fun w μ2 st2 H2 s2 sr2 q2 y ry => ?_⟩⟩
  exact g v w μ2 st2 H2 x y sr2 (rx.step s2) ry q2
/-- one piece -/
theorem rd1 {G : Wd} {W : WX} {a : Env → M Val} {f : Val → M Val} {σ : L2.St} {H : Hp} {Q : VK} {R : V → Hp → Prop}
    (h : RdE G W (fun ρ => bnd (a ρ) fun v => f v) σ H Q)
    (g : ∀ v μ st H1 x, SR G μ st H1 → RV G μ st H1 v x → Post G (fun c d H' => W c d σ H') μ st H1 (f v st) (fun v μ' st' H' => ∀ x, RV G μ' st' H' v x → Q x H') → R x H1) :
    RdE G W a σ H fun x H1 => R x H1 := by
  obtain ⟨ρ, st, μ, en, sr, p⟩ := h
  exact ⟨ρ, st, μ, en, sr, (Post.bnd p).imp fun v μ1 st1 H1 s1 sr1 q1 x rx => g v μ1 st1 H1 x sr1 rx q1⟩
end EV
end

section
set_option autoImplicit false
set_option linter.all false
set_option maxRecDepth 100000
set_option maxHeartbeats 4000000
set_option Elab.async false
/-! EvRep: a tuple once. -/
namespace EV
open PySem PySem.Spec
open PyProof.Rows
open L2
theorem tup_once (l : Addr) (items : Array Value) (n : Nat) (dd : Option Addr) (sl : Array (Option Value)) (u : Tok) :
    Meets (Builtin.«tuple.__mul__» ⟨[.ref l, .int 1 u], []⟩) (fun _ R s => s.heap.get? l = some { cls := .type "tuple", dict := dd, data := .seq items n, slots := sl } ∧ R (.ok (.ret (.ref l))) s) :=
  .of_wp fun prog w A R s h => by
    obtain ⟨hp, g, d, tk, os⟩ := s
    obtain ⟨hl, h⟩ := h
    have f1 := AutoSeq1.idx_int
    have c1 : (items.isEmpty || (1 : Int) == 1) = true := by simp
    wp_walk using wpAny_loadPart' hl
    repeat (first
      | (refine wpAny_ite_false (decide_eq_false (by decide)) ?_; wp_walk using wpAny_loadPart' hl)
      | (refine wpAny_ite_true (decide_eq_true c1) ?_; wp_walk using wpAny_loadPart' hl))
    exact ⟨_, rfl, h⟩
section
variable {X : Cx}
theorem op_once : OpR X (binaryOp .Mult) (fun x y H Q => ∃ l xs, x = .ref l ∧ y = .int 1 ∧ SqT X.K H l xs ∧ Q (.ref l) H) := by
  intro pins s σ H x y v u Q I rx ry h
  obtain ⟨l, xs, rfl, rfl, hT, q⟩ := h
  cases rx
  obtain ⟨t, rfl⟩ := ry
  obtain ⟨its, r, ⟨⟨cls, dd, data, sl⟩, ho, hc, n, hd⟩, hs⟩ := I.tuple hT
  simp only at hc hd
  subst hc hd
  exact wpAny_binaryOp_repeat_ref (T := "tuple") (U := "int") (by decide) ⟨_, ho, rfl⟩ (fun s' => typeIs_int s' 1 t) noFill_tuple_mul F.fills_int_mul F.slot_int_rmul repeat_tuple F.slot_int_index.lookup
    (call_meets F.slot_int_rmul (typeIs_int s 1 t) F.entry_int_rmul (F.args_int_rmul_2 _ _) (int_rmul_tuple 1 t l its.toArray n dd sl)
      ⟨ho, rfl, ⟨_, ho, rfl⟩, call_meets F.slot_tuple_mul ⟨_, ho, rfl⟩ F.entry_tuple_mul (F.args_tuple_mul_2 _ _) (tup_once l its.toArray n dd sl t) ⟨ho, ⟨.ref l, H, I, rfl, q⟩⟩⟩)
end
end EV
end

section
set_option autoImplicit false
set_option linter.all false
set_option maxRecDepth 100000
set_option Elab.async false
/-! EvOps: the operators, by values. -/
namespace EV
open PySem PySem.Spec PyProof.Rows L2

section
variable {X : Cx}
/-- what is wanted of a piece of data that comes -/
def Out (G : Wd) (H : Hp) (d : Dt) (Q : VK) : Prop := ∀ z H', Grown H H' → G.F H' d z → Q z H'
/-- a new object comes to rest -/
theorem EP.rest {pins : List (Addr × Obj)} {σ : L2.St} {Q : VK} {u : Value} {s : Shared} (h : EP X pins σ (fun v H => ∃ a o, v = .ref a ∧ H a = some o ∧ Mut (some o) ∧ ∀ ob, Q v (upd H a (.frz ob o))) u s) : EP X pins σ Q u s := by
  obtain ⟨v, H, I, r, a, o, e, ha, mu, q⟩ := h
  obtain ⟨ob, I1⟩ := I.lock ha mu
  exact ⟨v, _, I1, r, q ob⟩
theorem out_int {G : Wd} {H : Hp} {i : Int} {Q : VK} (h : Out G H (.int i) Q) : Q (.int i) H := h _ H (.refl H) (by show RF _ _ _ _ _ _; rw [RF])
theorem out_bool {G : Wd} {H : Hp} {b : Bool} {Q : VK} (h : Out G H (.bool b) Q) : Q (.bl b) H := h _ H (.refl H) (by show RF _ _ _ _ _ _; rw [RF])
theorem out_str {G : Wd} {H : Hp} {b : Str} {Q : VK} (h : Out G H (.str b) Q) : Q (.str b) H := h _ H (.refl H) (by show RF _ _ _ _ _ _; rw [RF])
theorem out_none {G : Wd} {H : Hp} {Q : VK} (h : Out G H .none Q) : Q .non H := h _ H (.refl H) (by show RF _ _ _ _ _ _; rw [RF])
/-- a tuple that stands -/
theorem out_tup {G : Wd} {H : Hp} {a : Addr} {xs : List V} {ds : List Dt} {Q : VK} (hs : SqT G.K H a xs) (r : G.Fs H ds xs) (h : Out G H (.tuple ds) Q) : Q (.ref a) H :=
  h _ H (.refl H) (by show RF _ _ _ _ _ _; rw [RF]; exact ⟨a, xs, rfl, hs, r⟩)
/-- a new tuple -/
theorem out_tupN {G : Wd} {H : Hp} {p : Addr} {xs : List V} {ds : List Dt} {Q : VK} (hp : H p = none) (r : G.Fs H ds xs) (h : Out G H (.tuple ds) Q) : Q (.ref p) (upd H p (.tup xs)) :=
  h _ _ (.new hp) (by show RF _ _ _ _ _ _; rw [RF]; exact ⟨p, xs, rfl, .inl (.inl upd_same), RFs.mono (fun b o e _ => Grown.new hp b o e) ds xs r⟩)
/-- a new list -/
theorem out_lstN {G : Wd} {H : Hp} {p : Addr} {xs : List V} {ds : List Dt} {Q : VK} (hp : H p = none) (r : G.Fs H ds xs) (h : Out G H (.list ds) Q) (ob : Obj) : Q (.ref p) (upd (upd H p (.lst xs)) p (.frz ob (.lst xs))) :=
  h _ _ (.new2 hp) (by show RF _ _ _ _ _ _; rw [RF]; exact ⟨p, xs, rfl, ⟨ob, upd_same⟩, RFs.mono (fun b o e _ => Grown.new2 hp b o e) ds xs r⟩)
/-- what is wanted of a new list -/
def restQ (Q : VK) : VK := fun v H => ∃ a o, v = .ref a ∧ H a = some o ∧ Mut (some o) ∧ ∀ ob, Q v (upd H a (.frz ob o))
theorem rest_lst {G : Wd} {H : Hp} {xs : List V} {ds : List Dt} {Q : VK} (r : G.Fs H ds xs) (h : Out G H (.list ds) Q) : ∀ p, H p = none → restQ Q (.ref p) (upd H p (.lst xs)) :=
  fun p hp => ⟨p, .lst xs, rfl, upd_same, trivial, out_lstN hp r h⟩

/-! ### arithmetic -/
def rBin (G : Wd) (o : Operator) : R2 := fun x y H Q => ∃ dx dy dz, RT2 G H dx x ∧ RT2 G H dy y ∧ binD o dx dy = some dz ∧ Out G H dz Q
theorem mulOk_iff {i j : Int} (h : mulOk i j = true) : IntMulOk i j := by
  unfold mulOk at h
  unfold IntMulOk
  rw [Bool.not_eq_true'] at h
  rw [h]
  exact Bool.false_ne_true
theorem op_mulA : OpR X (binaryOp .Mult) (rI (fun i j => mulOk i j = true) fun i j => .int (i * j)) := opI fun _ _ _ _ _ _ _ hc q => mul_int q (mulOk_iff hc)
theorem op_fdivA : OpR X (binaryOp .FloorDiv) (rI (fun i j => j ≠ 0 ∧ Builtin.divisionGoesByPylong i j = false) fun i j => .int (i.fdiv j)) := opI fun _ _ _ _ _ _ _ hc q => floordiv_int hc.1 q (.inl hc.2)
/-- xs + ys, both read -/
theorem op_catS : OpR X (binaryOp .Add) (fun x y H Q => ∃ l b xs zs, x = .ref l ∧ y = .ref b ∧ Rd H l (.lst xs) ∧ Rd H b (.lst zs) ∧ xs.length + zs.length ≤ sizeLine ∧ ∀ p, H p = none → Q (.ref p) (upd H p (.lst (xs ++ zs)))) := by
  intro pins s σ H x y v u Q I rx ry h
  obtain ⟨l, b, xs, zs, rfl, rfl, hH, hB, hz, q⟩ := h
  cases rx
  cases ry
  obtain ⟨_, its, n, r, hl, e⟩ := Inv.rd0 I hH
  obtain ⟨_, its2, n2, r2, hl2, e2⟩ := Inv.rd0 I hB
  have sz : its.toArray.size + its2.toArray.size ≤ sizeLine := by rw [List.size_toArray, List.size_toArray, ← hl, ← hl2]; exact hz
  refine PySem.P.add_list e e2 ?_ sz
  have ea : its.toArray ++ its2.toArray = (its ++ its2).toArray := by simp
  rw [ea]
  have hz2 : (xs ++ zs).length ≤ sizeLine := by rw [List.length_append]; exact hz
  exact ⟨.ref _, _, I.lnew (t' := s.toks) (r.append r2) hz2, rfl, q _ I.fresh⟩
theorem op_strMul : OpR X (binaryOp .Mult) (fun x y H Q => ∃ a j, x = .str a ∧ y = .int j ∧ 0 ≤ j ∧ j ≤ 1000 ∧ a.length ≤ 1000 ∧ Q (.str (repS j.toNat a)) H) := by
  intro pins s σ H x y v u Q I rx ry h
  obtain ⟨a, j, rfl, rfl, h0, h1, h2, q⟩ := h
  obtain ⟨t, rfl⟩ := rx
  obtain ⟨t', rfl⟩ := ry
  have fold : ∀ n : Nat, (List.replicate n a.cps).foldl (· ++ ·) #[] = (List.replicate n a.cps.toList).flatten.toArray := fun n => by
    have key : ∀ (n : Nat) (acc : Array Nat), (List.replicate n a.cps).foldl (· ++ ·) acc = acc ++ (List.replicate n a.cps.toList).flatten.toArray := fun n => by
      induction n with
      | zero => intro acc; simp
      | succ n ih =>
        intro acc
        rw [List.replicate_succ, List.foldl_cons, ih, List.replicate_succ, List.flatten_cons, ← List.append_toArray]
        simp [Array.append_assoc]
    rw [key]; simp
  refine PySem.P.mul_str (by rw [decide_eq_false (by omega), decide_eq_false (by omega)]; rfl) (fun _ hn => ?_) (fun _ hn => ?_) ?_
  · rw [Bool.or_eq_false_iff] at hn
    have hj : 0 < j := by omega
    rw [gt_iff_lt, Int.not_lt]
    have : (2 ^ 63 - 1 : Int) / 1000 ≤ (2 ^ 63 - 1) / j := by
      refine Int.le_ediv_of_mul_le hj ?_
      have : (2 ^ 63 - 1 : Int) / 1000 * j ≤ (2 ^ 63 - 1) / 1000 * 1000 := Int.mul_le_mul_of_nonneg_left h1 (by decide)
      omega
    omega
  · unfold Builtin.Str.tooLong
    refine decide_eq_false ?_
    have : a.length * j.toNat ≤ 1000 * 1000 := Nat.mul_le_mul h2 (by omega)
    have e : sizeLine = 16777216 := sizeLine_eq
    simp only [Nat.not_lt, gt_iff_lt]
    first | omega | (have := sizeLine_eq; omega)
  · by_cases c1 : j < 1
    · rw [if_pos c1]
      have e0 : j = 0 := by omega
      subst e0
      exact ⟨by decide, ⟨.str _, H, I.tok _, ⟨_, rfl⟩, q⟩⟩
    · rw [if_neg c1]
      by_cases c2 : (j == 1 || a.length == 0) = true
      · rw [if_pos c2]
        have es : repS j.toNat a = a := by
          rw [Bool.or_eq_true] at c2
          rcases c2 with c2 | c2
          · have : j = 1 := by simpa using c2
            subst this
            cases a; simp [repS]
          · have : a.length = 0 := by simpa using c2
            obtain ⟨cps⟩ := a
            have hz : cps = #[] := by simpa [Str.length] using this
            subst hz
            simp [repS]
        rw [es] at q
        exact ⟨.str a, H, I, ⟨t, rfl⟩, q⟩
      · rw [if_neg c2]
        have e2 : (⟨(List.replicate j.toNat a.cps).foldl (· ++ ·) #[]⟩ : Str) = repS j.toNat a := by rw [fold]; rfl
        rw [e2]
        refine ⟨?_, ⟨.str _, H, I.tok _, ⟨_, rfl⟩, q⟩⟩
        have e3 : (repS j.toNat a).length = j.toNat * a.length := by
          show ((List.replicate j.toNat a.cps.toList).flatten.toArray).size = _
          rw [List.size_toArray, PyProof.Rows.lm_len_rep_flat]
          simp [Str.length]
        have : j.toNat * a.length ≤ 1000 * 1000 := Nat.mul_le_mul (by omega) h2
        rw [e3, sizeLine_eq]
        omega
/-- xs * k, xs read -/
theorem op_repS : OpR X (binaryOp .Mult) (fun x y H Q => ∃ l k xs, x = .ref l ∧ y = .int k ∧ Rd H l (.lst xs) ∧ -(2 ^ 63) ≤ k ∧ k < 2 ^ 63 ∧ xs.length * k.toNat ≤ sizeLine ∧
    ∀ p, H p = none → Q (.ref p) (upd H p (.lst (List.replicate k.toNat xs).flatten))) := by
  intro pins s σ H x y v u Q I rx ry h
  obtain ⟨l, k, xs, rfl, rfl, hH, h1, h2, hz, q⟩ := h
  cases rx
  obtain ⟨t, rfl⟩ := ry
  obtain ⟨_, its, n, r, hl, e⟩ := Inv.rd0 I hH
  have hlen : its.toArray.size * k.toNat ≤ sizeLine := by rw [List.size_toArray, ← hl]; exact hz
  have cap : ¬ its.toArray.size * k.toNat > (2 ^ 63 - 1) / 8 := Nat.not_lt.mpr (Nat.le_trans hlen (by decide))
  have fit : ¬ (!Builtin.List.listFitsIndex k) = true := by rw [fitsIndex_both h1 h2]; decide
  have long : ¬ Builtin.List.listTooLong (its.toArray.size * k.toNat) = true := by rw [notLongL hlen]; decide
  have new : List.foldl (fun x1 x2 => x1 ++ x2) #[] (List.replicate (if its.toArray.isEmpty = true then 0 else k.toNat) its.toArray) = (List.replicate k.toNat its).flatten.toArray := by
    have f0 : ∀ m : Nat, List.foldl (fun x1 x2 => x1 ++ x2) #[] (List.replicate m its.toArray) = (List.replicate m its).flatten.toArray := fun m => by
      simpa using foldl_rep its m []
    rw [f0]
    cases its with
    | nil => simp
    | cons a r' => simp
  refine wpAny_binaryOp_repeat_ref (T := "list") (U := "int") (by decide) ⟨_, e, rfl⟩ (fun s' => typeIs_int s' k t) noFill_list_mul F.fills_int_mul F.slot_int_rmul repeat_list F.slot_int_index.lookup ?_
  refine call_meets F.slot_int_rmul (typeIs_int s k t) F.entry_int_rmul (F.args_int_rmul_2 _ _) (int___rmul___int_list k t l its.toArray n) ⟨e, rfl, ⟨_, e, rfl⟩, ?_⟩
  refine call_meets F.slot_list_mul ⟨_, e, rfl⟩ F.entry_list_mul (F.args_list_mul_2 _ _) (AutoListH.list___mul___list_int_3 l its.toArray n k t fit cap long) ⟨e, ?_⟩
  rw [new]
  have hz2 : (List.replicate k.toNat xs).flatten.length ≤ sizeLine := by rw [PyProof.Rows.lm_len_rep_flat, Nat.mul_comm]; exact hz
  exact ⟨.ref _, _, I.lnew (t' := s.toks) (r.rep k.toNat) hz2, rfl, q _ I.fresh⟩
theorem fits_iff {n : Nat} (h : fits n = true) : n ≤ sizeLine := of_decide_eq_true h
theorem opImp {f : Value → Value → Sem Value} {r r' : R2} (h : OpR X f r) (i : ∀ x y H Q, r' x y H Q → r x y H Q) : OpR X f r' := fun pins s σ H x y v u Q I rx ry q => h pins s σ H x y v u Q I rx ry (i x y H Q q)
/-- with a new object that comes to rest -/
theorem opRest {f : Value → Value → Sem Value} {r : R2} (h : OpR X f r) : OpR X f (fun x y H Q => r x y H (restQ Q)) := fun pins s σ H x y v u Q I rx ry q =>
  thn (h pins s σ H x y v u _ I rx ry q) fun _ _ e => EP.rest e
theorem op_bin (o : Operator) : OpR X (binaryOp o) (rBin (gx X) o) := by
  intro pins s σ H x y v u Q I rx ry h
  obtain ⟨dx, dy, dz, hx, hy, e, q⟩ := h
  unfold binD at e
  split at e
  · -- ints
    cases e
    rw [hx.int] at rx; rw [hy.int] at ry
    exact op_add pins s σ H _ _ v u Q I rx ry ⟨_, _, rfl, rfl, out_int q⟩
  · -- texts
    split at e
    · rename_i hf
      cases e
      rw [hx.str] at rx; rw [hy.str] at ry
      exact op_add_str pins s σ H _ _ v u Q I rx ry ⟨_, _, rfl, rfl, fits_iff hf, out_str q⟩
    · cases e
  · -- tuples
    split at e
    · rename_i hf
      cases e
      obtain ⟨a, xs, rfl, sa, ra⟩ := hx.tuple
      obtain ⟨b, ys, rfl, sb, rb⟩ := hy.tuple
      have hl := ra.length
      have hl2 := rb.length
      refine op_catA pins s σ H _ _ v u Q I rx ry ⟨a, b, xs, ys, rfl, rfl, sa, sb, by rw [← hl, ← hl2]; exact fits_iff hf, fun e0 => ?_, fun _ e0 => ?_, fun _ _ p hp => out_tupN hp (ra.app rb) q⟩
      · rw [e0] at hl
        have := List.eq_nil_of_length_eq_zero hl
        subst this
        exact out_tup sb rb q
      · rw [e0] at hl2
        have := List.eq_nil_of_length_eq_zero hl2
        subst this
        rw [List.append_nil] at q
        exact out_tup sa ra q
    · cases e
  · -- lists
    split at e
    · rename_i hf
      cases e
      obtain ⟨a, xs, rfl, sa, ra⟩ := hx.list
      obtain ⟨b, ys, rfl, sb, rb⟩ := hy.list
      have hl := ra.length
      have hl2 := rb.length
      exact opRest op_catS pins s σ H _ _ v u Q I rx ry ⟨a, b, xs, ys, rfl, rfl, sa, sb, by rw [← hl, ← hl2]; exact fits_iff hf, rest_lst (ra.app rb) q⟩
    · cases e
  · -- int - int
    cases e
    rw [hx.int] at rx; rw [hy.int] at ry
    exact op_sub pins s σ H _ _ v u Q I rx ry ⟨_, _, rfl, rfl, out_int q⟩
  · split at e
    · rename_i hf
      cases e
      rw [hx.int] at rx; rw [hy.int] at ry
      exact op_mulA pins s σ H _ _ v u Q I rx ry ⟨_, _, rfl, rfl, hf, out_int q⟩
    · cases e
  · -- tuple * int
    split at e
    · rename_i hf
      cases e
      simp only [Bool.and_eq_true, decide_eq_true_eq] at hf
      obtain ⟨⟨⟨h1, h2⟩, h3⟩, h4⟩ := hf
      obtain ⟨a, xs, rfl, sa, ra⟩ := hx.tuple
      rw [hy.int] at ry
      have hl := ra.length
      exact op_repT pins s σ H _ _ v u Q I rx ry ⟨a, _, xs, rfl, rfl, sa, fun e0 => h1 (by rw [e0] at hl; exact List.eq_nil_of_length_eq_zero hl), h2, h3, by rw [← hl]; exact h4, fun p hp => out_tupN hp (ra.flat _) q⟩
    · split at e
      · rename_i hj
        cases e
        subst hj
        obtain ⟨a, xs, rfl, sa, ra⟩ := hx.tuple
        rw [hy.int] at ry
        exact op_once pins s σ H _ _ v u Q I rx ry ⟨a, xs, rfl, rfl, sa, out_tup sa ra q⟩
      · cases e
  · -- list * int
    split at e
    · rename_i hf
      cases e
      simp only [Bool.and_eq_true, decide_eq_true_eq] at hf
      obtain ⟨⟨h1, h2⟩, h3⟩ := hf
      obtain ⟨a, xs, rfl, sa, ra⟩ := hx.list
      rw [hy.int] at ry
      have hl := ra.length
      exact opRest op_repS pins s σ H _ _ v u Q I rx ry ⟨a, _, xs, rfl, rfl, sa, h1, h2, by rw [← hl]; exact fits_iff h3, rest_lst (ra.flat _) q⟩
    · cases e
  · -- text * int
    split at e
    · rename_i hf
      cases e
      simp only [Bool.and_eq_true, decide_eq_true_eq] at hf
      obtain ⟨⟨h1, h2⟩, h3⟩ := hf
      rw [hx.str] at rx; rw [hy.int] at ry
      exact op_strMul pins s σ H _ _ v u Q I rx ry ⟨_, _, rfl, rfl, h1, h2, h3, out_str q⟩
    · cases e
  · split at e
    · rename_i hf
      cases e
      simp only [Bool.and_eq_true, decide_eq_true_eq, Bool.not_eq_true'] at hf
      rw [hx.int] at rx; rw [hy.int] at ry
      exact op_fdivA pins s σ H _ _ v u Q I rx ry ⟨_, _, rfl, rfl, hf, out_int q⟩
    · cases e
  · split at e
    · cases e
    · rename_i hf
      cases e
      rw [hx.int] at rx; rw [hy.int] at ry
      exact op_modN pins s σ H _ _ v u Q I rx ry ⟨_, _, rfl, rfl, hf, out_int q⟩
  · split at e
    · rename_i hf
      cases e
      simp only [Bool.and_eq_true, decide_eq_true_eq] at hf
      obtain ⟨⟨h1, h2⟩, h3⟩ := hf
      rw [hx.int] at rx; rw [hy.int] at ry
      exact op_pow pins s σ H _ _ v u Q I rx ry ⟨_, _, rfl, rfl, ⟨h1, h2, h3⟩, out_int q⟩
    · cases e
  · cases e
end
end EV
end

section
set_option autoImplicit false
set_option linter.all false
set_option maxRecDepth 100000
set_option Elab.async false
/-! EvDict: dicts, by values. -/
namespace EV
open PySem PySem.Spec PyProof.Rows L2

/-! ### keys -/
mutual
theorem eqv_nk : ∀ (x y : Dt) (a b : NestedKey), nk x = some a → nk y = some b → PyData.eqv x y = NestedKey.beq a b
  | .none, y, a, b, h, g => by
    rw [nk] at h; cases h
    cases y with
    | none => rw [nk] at g; cases g; rfl
    | bool d => rw [nk] at g; cases g; rfl
    | int j => rw [nk] at g; cases g; rfl
    | str z => rw [nk] at g; cases g; rfl
    | tuple zs => rw [nk] at g; obtain ⟨ks, _, rfl⟩ := Option.map_eq_some_iff.mp g; rfl
    | list zs => rw [nk] at g; cases g
    | dict zs => rw [nk] at g; cases g
  | .bool c, y, a, b, h, g => by
    rw [nk] at h; cases h
    cases y with
    | none => rw [nk] at g; cases g; rfl
    | bool d => rw [nk] at g; cases g; rw [PyData.eqv, NestedKey.beq]; cases c <;> cases d <;> rfl
    | int j => rw [nk] at g; cases g; rw [PyData.eqv, NestedKey.beq]; exact Bool.beq_eq_decide_eq _ _
    | str z => rw [nk] at g; cases g; rfl
    | tuple zs => rw [nk] at g; obtain ⟨ks, _, rfl⟩ := Option.map_eq_some_iff.mp g; rfl
    | list zs => rw [nk] at g; cases g
    | dict zs => rw [nk] at g; cases g
  | .int c, y, a, b, h, g => by
    rw [nk] at h; cases h
    cases y with
    | none => rw [nk] at g; cases g; rfl
    | bool d => rw [nk] at g; cases g; rw [PyData.eqv, NestedKey.beq]; exact Bool.beq_eq_decide_eq _ _
    | int j => rw [nk] at g; cases g; rw [PyData.eqv, NestedKey.beq]; exact Bool.beq_eq_decide_eq _ _
    | str z => rw [nk] at g; cases g; rfl
    | tuple zs => rw [nk] at g; obtain ⟨ks, _, rfl⟩ := Option.map_eq_some_iff.mp g; rfl
    | list zs => rw [nk] at g; cases g
    | dict zs => rw [nk] at g; cases g
  | .str c, y, a, b, h, g => by
    rw [nk] at h; cases h
    cases y with
    | none => rw [nk] at g; cases g; rfl
    | bool d => rw [nk] at g; cases g; rfl
    | int j => rw [nk] at g; cases g; rfl
    | str z => rw [nk] at g; cases g; rw [PyData.eqv, NestedKey.beq]; exact Bool.beq_eq_decide_eq _ _
    | tuple zs => rw [nk] at g; obtain ⟨ks, _, rfl⟩ := Option.map_eq_some_iff.mp g; rfl
    | list zs => rw [nk] at g; cases g
    | dict zs => rw [nk] at g; cases g
  | .tuple xs, y, a, b, h, g => by
    rw [nk] at h
    obtain ⟨ks, hk, rfl⟩ := Option.map_eq_some_iff.mp h
    cases y with
    | none => rw [nk] at g; cases g; rfl
    | bool d => rw [nk] at g; cases g; rfl
    | int j => rw [nk] at g; cases g; rfl
    | str z => rw [nk] at g; cases g; rfl
    | tuple zs =>
      rw [nk] at g
      obtain ⟨ls, hl, rfl⟩ := Option.map_eq_some_iff.mp g
      rw [PyData.eqv, NestedKey.beq]
      exact eqv_nks xs zs ks ls hk hl
    | list zs => rw [nk] at g; cases g
    | dict zs => rw [nk] at g; cases g
  | .list _, _, _, _, h, _ => by rw [nk] at h; cases h
  | .dict _, _, _, _, h, _ => by rw [nk] at h; cases h
theorem eqv_nks : ∀ (xs ys : List Dt) (as bs : List NestedKey), nks xs = some as → nks ys = some bs → PyData.eqvAll xs ys = NestedKey.beqAll as bs
  | [], ys, as, bs, h, g => by
    rw [nks] at h; cases h
    cases ys with
    | nil => rw [nks] at g; cases g; rfl
    | cons y ys =>
      rw [nks] at g
      obtain ⟨k, _, g⟩ := Option.bind_eq_some_iff.mp g
      obtain ⟨ks, _, rfl⟩ := Option.map_eq_some_iff.mp g
      rfl
  | x :: xs, ys, as, bs, h, g => by
    rw [nks] at h
    obtain ⟨k, hk, h⟩ := Option.bind_eq_some_iff.mp h
    obtain ⟨ks, hks, rfl⟩ := Option.map_eq_some_iff.mp h
    cases ys with
    | nil => rw [nks] at g; cases g; rfl
    | cons y ys =>
      rw [nks] at g
      obtain ⟨l, hl, g⟩ := Option.bind_eq_some_iff.mp g
      obtain ⟨ls, hls, rfl⟩ := Option.map_eq_some_iff.mp g
      rw [PyData.eqvAll, NestedKey.beqAll, eqv_nk x y k l hk hl, eqv_nks xs ys ks ls hks hls]
end
theorem eqv_key {x y : Dt} {a b : NestedKey} (h : nk x = some a) (g : nk y = some b) : PyData.eqv x y = decide (a = b) := by
  rw [NestedKey.decide_eq]; exact eqv_nk x y a b h g
theorem fk_nk {x : Dt} {q : Key} (h : fk x = some q) : (∃ i, x = .int i ∧ q = .inl i) ∨ (∃ z, x = .str z ∧ q = .inr z) := by
  cases x <;> simp [fk] at h
  · exact .inl ⟨_, rfl, h.symm⟩
  · exact .inr ⟨_, rfl, h.symm⟩
theorem eqv_fk {x y : Dt} {a b : Key} (h : fk x = some a) (g : fk y = some b) : PyData.eqv x y = decide (a = b) := by
  rcases fk_nk h with ⟨i, rfl, rfl⟩ | ⟨z, rfl, rfl⟩ <;> rcases fk_nk g with ⟨j, rfl, rfl⟩ | ⟨z', rfl, rfl⟩
  · rw [PyData.eqv, key_ll]
  · rw [PyData.eqv, key_lr]
  · rw [PyData.eqv, key_rl]
  · rw [PyData.eqv, key_rr]; exact Bool.beq_eq_decide_eq _ _
theorem tupKey_ok {k : Dt} (h : tupKey k = true) : ∃ xs ks, k = .tuple xs ∧ nks xs = some ks ∧ nk k = some (.tup ks) ∧ (NestedKey.tup ks).depth ≤ 8 := by
  unfold tupKey at h
  split at h
  · rename_i xs
    split at h
    · rename_i ks hk
      exact ⟨xs, ks, rfl, hk, by rw [nk, hk]; rfl, by rw [NestedKey.depth]; exact of_decide_eq_true h⟩
    · cases h
  · cases h
theorem flatKey_ok {k : Dt} (h : flatKey k = true) : ∃ q, fk k = some q := by
  cases k <;> simp [flatKey] at h
  · exact ⟨_, rfl⟩
  · exact ⟨_, rfl⟩
theorem flat_of_fk {k : Dt} {q : Key} (h : fk k = some q) : flatKey k = true := by
  rcases fk_nk h with ⟨i, rfl, rfl⟩ | ⟨z, rfl, rfl⟩ <;> rfl

section
variable {X : Cx} {pins : List (Addr × Obj)} {σ : L2.St} {H : Hp} {s : Shared}
mutual
theorem RF.nest (I : Inv X pins σ H s) : ∀ (d : Dt) (v : V) (k : NestedKey) (u : Value), nk d = some k → RF X.prog X.w X.K H d v → RelV v u → NestedIs s.heap k u
  | .none, v, k, u, h, r, q => by
    rw [nk] at h; cases h
    rw [RF] at r; subst r; cases q; exact .none
  | .bool b, v, k, u, h, r, q => by
    rw [nk] at h; cases h
    rw [RF] at r; subst r; cases q; exact .bool rfl
  | .int i, v, k, u, h, r, q => by
    rw [nk] at h; cases h
    rw [RF] at r; subst r; obtain ⟨t, rfl⟩ := q; exact .int _ _
  | .str i, v, k, u, h, r, q => by
    rw [nk] at h; cases h
    rw [RF] at r; subst r; obtain ⟨t, rfl⟩ := q; exact .text _ _
  | .tuple ds, v, k, u, h, r, q => by
    rw [nk] at h
    obtain ⟨ks, hk, rfl⟩ := Option.map_eq_some_iff.mp h
    rw [RF] at r
    obtain ⟨a, xs, rfl, sq, rs⟩ := r
    cases q
    obtain ⟨its, rv, ⟨o, e, c, n, d⟩, _⟩ := I.tuple sq
    exact .tup e c d (RFs.nest I ds xs ks its hk rs rv)
  | .list _, _, _, _, h, _, _ => by rw [nk] at h; cases h
  | .dict _, _, _, _, h, _, _ => by rw [nk] at h; cases h
theorem RFs.nest (I : Inv X pins σ H s) : ∀ (ds : List Dt) (vs : List V) (ks : List NestedKey) (us : List Value), nks ds = some ks → RFs X.prog X.w X.K H ds vs → Vals vs us → NestedAll s.heap ks us
  | [], vs, ks, us, h, r, q => by
    rw [nks] at h; cases h
    rw [RFs] at r; subst r; cases q; exact .nil
  | d :: ds, vs, ks, us, h, r, q => by
    rw [nks] at h
    obtain ⟨k, hk, h⟩ := Option.bind_eq_some_iff.mp h
    obtain ⟨ks', hks, rfl⟩ := Option.map_eq_some_iff.mp h
    rw [RFs] at r
    obtain ⟨x, r', rfl, r1, r2⟩ := r
    cases q with
    | cons q1 q2 => exact .cons (RF.nest I d x k _ hk r1 q1) (RFs.nest I ds r' ks' _ hks r2 q2)
end
end

/-! ### entries -/
def JT (F : Dt → V → Prop) : List (Dt × Dt) → List (NestedKey × Addr × Value) → Prop :=
  Paired fun p x => nk p.1 = some x.1 ∧ tupKey p.1 = true ∧ F p.1 (.ref x.2.1) ∧ ∃ y, F p.2 y ∧ RelV y x.2.2
def JF (F : Dt → V → Prop) : List (Dt × Dt) → List (Key × Value) → Prop :=
  Paired fun p x => fk p.1 = some x.1 ∧ F p.1 (kV x.1) ∧ ∃ y, F p.2 y ∧ RelV y x.2
/-- a dict's entries, joint -/
def Dj (P : Program) (w : World) (F : Dt → V → Prop) (kvs : List (Dt × Dt)) (es : Array DictEntry) : Prop :=
  (∃ xs, es.toList = xs.map (entryOfKey (nestedKind P w)) ∧ (xs.map (·.1)).Nodup ∧ JT F kvs xs) ∨
  (∃ ys, KeysOf (mixKind P w) es ∧ Pairs (mixKind P w) es.toList ys ∧ (ys.map (·.1)).Nodup ∧ JF F kvs ys)
section
variable {P : Program} {w : World} {K : PySem.W.Frag} {H : Hp}
theorem jt_of : ∀ {kvs : List (Dt × Dt)} {vs : List (V × V)} {xs : List (NestedKey × Addr × Value)}, kvs.length = vs.length → RFkv P w K H kvs vs →
    Paired (fun (p : (Dt × Dt) × (V × V)) (x : NestedKey × Addr × Value) => nk p.1.1 = some x.1 ∧ tupKey p.1.1 = true ∧ p.2.1 = .ref x.2.1 ∧ RelV p.2.2 x.2.2) (kvs.zip vs) xs → JT (RF P w K H) kvs xs
  | [], [], _, _, _, h => by cases h; exact .nil
  | [], _ :: _, _, e, _, _ => by simp at e
  | _ :: _, [], _, e, _, _ => by simp at e
  | (k, v) :: kvs, z :: vs, _, e, r, h => by
    rw [RFkv] at r
    obtain ⟨x, r', q, r1, r2⟩ := r
    injection q with q1 q2
    subst q1 q2
    rw [RFp] at r1
    cases h with
    | cons h1 h2 =>
      obtain ⟨a1, a2, a3, a4⟩ := h1
      exact .cons ⟨a1, a2, by rw [← a3]; exact r1.1, _, r1.2, a4⟩ (jt_of (by simpa using e) r2 h2)
theorem jf_of : ∀ {kvs : List (Dt × Dt)} {vs : List (V × V)} {xs : List (Key × Value)}, kvs.length = vs.length → RFkv P w K H kvs vs →
    Paired (fun (p : (Dt × Dt) × (V × V)) (x : Key × Value) => fk p.1.1 = some x.1 ∧ RelV p.2.2 x.2) (kvs.zip vs) xs → JF (RF P w K H) kvs xs
  | [], [], _, _, _, h => by cases h; exact .nil
  | [], _ :: _, _, e, _, _ => by simp at e
  | _ :: _, [], _, e, _, _ => by simp at e
  | (k, v) :: kvs, z :: vs, _, e, r, h => by
    rw [RFkv] at r
    obtain ⟨x, r', q, r1, r2⟩ := r
    injection q with q1 q2
    subst q1 q2
    rw [RFp] at r1
    cases h with
    | cons h1 h2 =>
      obtain ⟨a1, a2⟩ := h1
      refine .cons ⟨a1, ?_, _, r1.2, a2⟩ (jf_of (by simpa using e) r2 h2)
      rcases fk_nk a1 with ⟨i, e1, e2⟩ | ⟨i, e1, e2⟩
      · have e1' : k = .int i := e1
        rw [e1', RF, e2]; rfl
      · have e1' : k = .str i := e1
        rw [e1', RF, e2]; rfl
theorem of_jt : ∀ {kvs : List (Dt × Dt)} {xs : List (NestedKey × Addr × Value)}, JT (RF P w K H) kvs xs → ∃ vs, kvs.length = vs.length ∧ RFkv P w K H kvs vs ∧
    Paired (fun (p : (Dt × Dt) × (V × V)) (x : NestedKey × Addr × Value) => nk p.1.1 = some x.1 ∧ tupKey p.1.1 = true ∧ p.2.1 = .ref x.2.1 ∧ RelV p.2.2 x.2.2) (kvs.zip vs) xs
  | [], _, h => by cases h; exact ⟨[], rfl, by rw [RFkv], .nil⟩
  | (k, v) :: kvs, _, h => by
    cases h with
    | cons h1 h2 =>
      obtain ⟨a1, a2, a3, y, a4, a5⟩ := h1
      obtain ⟨vs, l, r, p⟩ := of_jt h2
      exact ⟨_ :: vs, by simp [l], by rw [RFkv]; exact ⟨(.ref _, y), vs, rfl, by rw [RFp]; exact ⟨a3, a4⟩, r⟩, .cons ⟨a1, a2, rfl, a5⟩ p⟩
theorem of_jf : ∀ {kvs : List (Dt × Dt)} {xs : List (Key × Value)}, JF (RF P w K H) kvs xs → ∃ vs, kvs.length = vs.length ∧ RFkv P w K H kvs vs ∧
    Paired (fun (p : (Dt × Dt) × (V × V)) (x : Key × Value) => fk p.1.1 = some x.1 ∧ RelV p.2.2 x.2) (kvs.zip vs) xs
  | [], _, h => by cases h; exact ⟨[], rfl, by rw [RFkv], .nil⟩
  | (k, v) :: kvs, _, h => by
    cases h with
    | cons h1 h2 =>
      obtain ⟨a1, a3, y, a4, a5⟩ := h1
      obtain ⟨vs, l, r, p⟩ := of_jf h2
      exact ⟨_ :: vs, by simp [l], by rw [RFkv]; exact ⟨(kV _, y), vs, rfl, by rw [RFp]; exact ⟨a3, a4⟩, r⟩, .cons ⟨a1, a5⟩ p⟩
theorem Dj.of {kvs : List (Dt × Dt)} {vs : List (V × V)} {es : Array DictEntry} (r : RFkv P w K H kvs vs) (h : EntOk P w kvs vs es) : Dj P w (RF P w K H) kvs es := by
  obtain ⟨l, ⟨xs, e, n, p⟩ | ⟨ys, e, e2, n, p⟩⟩ := h
  · exact .inl ⟨xs, e, n, jt_of l r p⟩
  · exact .inr ⟨ys, e, e2, n, jf_of l r p⟩
theorem Dj.to {kvs : List (Dt × Dt)} {es : Array DictEntry} (h : Dj P w (RF P w K H) kvs es) : ∃ vs, RFkv P w K H kvs vs ∧ EntOk P w kvs vs es := by
  rcases h with ⟨xs, e, n, p⟩ | ⟨ys, e, e2, n, p⟩
  · obtain ⟨vs, l, r, q⟩ := of_jt p
    exact ⟨vs, r, l, .inl ⟨xs, e, n, q⟩⟩
  · obtain ⟨vs, l, r, q⟩ := of_jf p
    exact ⟨vs, r, l, .inr ⟨ys, e, e2, n, q⟩⟩
theorem Dj.map {F F' : Dt → V → Prop} {kvs : List (Dt × Dt)} {es : Array DictEntry} (h : Dj P w F kvs es) (m : ∀ d v, F d v → F' d v) : Dj P w F' kvs es := by
  rcases h with ⟨xs, e, n, p⟩ | ⟨ys, e, e2, n, p⟩
  · exact .inl ⟨xs, e, n, Paired.mapP p fun _ _ ⟨a, b, c, y, d, e⟩ => ⟨a, b, m _ _ c, y, m _ _ d, e⟩⟩
  · exact .inr ⟨ys, e, e2, n, Paired.mapP p fun _ _ ⟨a, c, y, d, e⟩ => ⟨a, m _ _ c, y, m _ _ d, e⟩⟩
theorem Dj.nil {F : Dt → V → Prop} : Dj P w F [] #[] := .inl ⟨[], rfl, List.nodup_nil, .nil⟩
theorem Dj.size {F : Dt → V → Prop} {kvs : List (Dt × Dt)} {es : Array DictEntry} (h : Dj P w F kvs es) : es.size = kvs.length := by
  rcases h with ⟨xs, e, n, p⟩ | ⟨ys, e, e2, n, p⟩
  · rw [Paired.length p, ← Array.length_toList, e, List.length_map]
  · rw [Paired.length p, ← Array.length_toList, e2.length]
/-- the entries one by one -/
theorem Dj.at {F : Dt → V → Prop} {kvs : List (Dt × Dt)} {es : Array DictEntry} (h : Dj P w F kvs es) {i : Nat} {e : DictEntry} (he : es[i]? = some e) : ∃ p x y, kvs[i]? = some p ∧ F p.1 x ∧ RelV x e.key ∧ F p.2 y ∧ RelV y e.val := by
  have pg : ∀ {α β : Type} {R : α → β → Prop} {xs : List α} {ys : List β} {i : Nat} {y : β}, Paired R xs ys → ys[i]? = some y → ∃ x, xs[i]? = some x ∧ R x y := by
    intro α β R xs ys i y p
    induction p generalizing i with
    | nil => intro e; simp at e
    | cons r t ih =>
      intro e
      cases i with
      | zero => simp at e; subst e; exact ⟨_, rfl, r⟩
      | succ i =>
        obtain ⟨x, e1, e2⟩ := ih (by simpa using e)
        exact ⟨x, by simpa using e1, e2⟩
  rcases h with ⟨xs, ee, n, p⟩ | ⟨ys, ek, e2, n, p⟩
  · rw [← Array.getElem?_toList, ee, List.getElem?_map] at he
    obtain ⟨x, hx, rfl⟩ := Option.map_eq_some_iff.mp he
    obtain ⟨q, h1, _, _, h3, y, h4, h5⟩ := pg p hx
    exact ⟨q, .ref x.2.1, y, h1, h3, rfl, h4, h5⟩
  · have hl : i < ys.length := by rw [← e2.length, Array.length_toList]; exact (Array.getElem?_eq_some_iff.mp he).1
    obtain ⟨q, h1, h2, h3, y, h4, h5⟩ := pg p (List.getElem?_eq_getElem hl)
    have he' : es.toList[i]? = some e := by rw [Array.getElem?_toList]; exact he
    obtain ⟨g1, g2⟩ := e2.get? he' (List.getElem?_eq_getElem hl)
    refine ⟨q, _, y, h1, h3, ?_, h4, by rw [g2]; exact h5⟩
    rcases keyIs_shape (show keyIs (ys[i]).1 e.key = true from g1) with ⟨j, t, e3, e4⟩ | ⟨z, t, e3, e4⟩
    · rw [e4]; rw [e3]; exact ⟨t, rfl⟩
    · rw [e4]; rw [e3]; exact ⟨t, rfl⟩

/-! ### what a key gives -/
variable {F : Dt → V → Prop}
theorem JT.val {kvs : List (Dt × Dt)} {xs : List (NestedKey × Addr × Value)} (h : JT F kvs xs) {k : Dt} {q : NestedKey} (hk : nk k = some q) :
    (∃ d p y, dget kvs k = some d ∧ atKey xs q = some p ∧ F d y ∧ RelV y p.2) ∨ (dget kvs k = none ∧ atKey xs q = none) := by
  unfold JT at h
  induction h with
  | nil => exact .inr ⟨rfl, rfl⟩
  | @cons p x ps xs h t ih =>
    obtain ⟨h1, _, _, y, h4, h5⟩ := h
    have e : PyData.eqv p.1 k = decide (x.1 = q) := eqv_key h1 hk
    by_cases c : x.1 = q
    · refine .inl ⟨p.2, x.2, y, ?_, ?_, h4, h5⟩
      · unfold dget; rw [List.find?_cons, e, decide_eq_true c]; rfl
      · unfold atKey; rw [List.find?_cons, decide_eq_true c]; rfl
    · have e1 : dget (p :: ps) k = dget ps k := by unfold dget; rw [List.find?_cons, e, decide_eq_false c]
      have e2 : atKey (x :: xs) q = atKey xs q := by unfold atKey; rw [List.find?_cons, decide_eq_false c]
      rw [e1, e2]; exact ih
theorem JF.val {kvs : List (Dt × Dt)} {xs : List (Key × Value)} (h : JF F kvs xs) {k : Dt} {q : Key} (hk : fk k = some q) :
    (∃ d p y, dget kvs k = some d ∧ valueAt xs q = some p ∧ F d y ∧ RelV y p) ∨ (dget kvs k = none ∧ valueAt xs q = none) := by
  unfold JF at h
  induction h with
  | nil => exact .inr ⟨rfl, rfl⟩
  | @cons p x ps xs h t ih =>
    obtain ⟨h1, _, y, h4, h5⟩ := h
    have e : PyData.eqv p.1 k = decide (x.1 = q) := eqv_fk h1 hk
    by_cases c : x.1 = q
    · refine .inl ⟨p.2, x.2, y, ?_, ?_, h4, h5⟩
      · unfold dget; rw [List.find?_cons, e, decide_eq_true c]; rfl
      · unfold valueAt; rw [List.find?_cons, decide_eq_true c]; rfl
    · have e1 : dget (p :: ps) k = dget ps k := by unfold dget; rw [List.find?_cons, e, decide_eq_false c]
      have e2 : valueAt (x :: xs) q = valueAt xs q := by unfold valueAt; rw [List.find?_cons, decide_eq_false c]
      rw [e1, e2]; exact ih
theorem JT.put {kvs : List (Dt × Dt)} {xs : List (NestedKey × Addr × Value)} (h : JT F kvs xs) {k v : Dt} {q : NestedKey} {b : Addr} {y : V} {u : Value} (hk : nk k = some q) (ht : tupKey k = true) (fb : F k (.ref b)) (fv : F v y) (r : RelV y u) :
    JT F (dput kvs k v) (storedH xs q b u) := by
  have re : ∀ {kvs : List (Dt × Dt)} {xs : List (NestedKey × Addr × Value)}, JT F kvs xs → JT F (kvs.map fun p => if PyData.eqv p.1 k then (p.1, v) else p) (xs.map (putAt q u)) := by
    intro kvs xs h
    unfold JT at h ⊢
    induction h with
    | nil => exact .nil
    | @cons p x ps xs h t ih =>
      rw [List.map_cons, List.map_cons]
      refine .cons ?_ ih
      obtain ⟨h1, h2, h3, z, h4, h5⟩ := h
      have e : PyData.eqv p.1 k = decide (x.1 = q) := eqv_key h1 hk
      unfold putAt
      by_cases c : x.1 = q
      · rw [e, if_pos c, if_pos (decide_eq_true c)]; exact ⟨h1, h2, h3, y, fv, r⟩
      · rw [e, if_neg c, if_neg (by rw [decide_eq_false c]; exact Bool.false_ne_true)]; exact ⟨h1, h2, h3, z, h4, h5⟩
  unfold dput storedH dhas
  rcases h.val hk with ⟨d, p, z, e1, e2, _⟩ | ⟨e1, e2⟩
  · rw [e1, e2]; exact re h
  · rw [e1, e2]; exact Paired.snoc h ⟨hk, ht, fb, y, fv, r⟩
theorem JF.put {kvs : List (Dt × Dt)} {xs : List (Key × Value)} (h : JF F kvs xs) {k v : Dt} {q : Key} {y : V} {u : Value} (hk : fk k = some q) (fb : F k (kV q)) (fv : F v y) (r : RelV y u) :
    JF F (dput kvs k v) (stored xs q u) := by
  have re : ∀ {kvs : List (Dt × Dt)} {xs : List (Key × Value)}, JF F kvs xs → JF F (kvs.map fun p => if PyData.eqv p.1 k then (p.1, v) else p) (xs.map fun kv => if kv.1 = q then (kv.1, u) else kv) := by
    intro kvs xs h
    unfold JF at h ⊢
    induction h with
    | nil => exact .nil
    | @cons p x ps xs h t ih =>
      rw [List.map_cons, List.map_cons]
      refine .cons ?_ ih
      obtain ⟨h1, h3, z, h4, h5⟩ := h
      have e : PyData.eqv p.1 k = decide (x.1 = q) := eqv_fk h1 hk
      by_cases c : x.1 = q
      · rw [e, if_pos c, if_pos (decide_eq_true c)]; exact ⟨h1, h3, y, fv, r⟩
      · rw [e, if_neg c, if_neg (by rw [decide_eq_false c]; exact Bool.false_ne_true)]; exact ⟨h1, h3, z, h4, h5⟩
  have any : ∀ (l : List (Key × Value)), (l.any fun kv => decide (kv.1 = q)) = (valueAt l q).isSome := by
    intro l
    induction l with
    | nil => rfl
    | cons x l ih =>
      unfold valueAt at ih ⊢
      rw [List.any_cons, List.find?_cons]
      by_cases c : x.1 = q
      · rw [decide_eq_true c]; rfl
      · rw [decide_eq_false c, Bool.false_or]; exact ih
  unfold dput stored dhas
  rw [any]
  rcases h.val hk with ⟨d, p, z, e1, e2, _⟩ | ⟨e1, e2⟩
  · rw [e1, e2]; exact re h
  · rw [e1, e2]; exact Paired.snoc h ⟨hk, fb, y, fv, r⟩
theorem JT.del {kvs : List (Dt × Dt)} {xs : List (NestedKey × Addr × Value)} (h : JT F kvs xs) {k : Dt} {q : NestedKey} (hk : nk k = some q) : JT F (ddel kvs k) (withoutH xs q) := by
  unfold JT at h ⊢
  unfold ddel withoutH
  induction h with
  | nil => exact .nil
  | @cons p x ps xs h t ih =>
    have e : PyData.eqv p.1 k = decide (x.1 = q) := eqv_key h.1 hk
    rw [List.filter_cons, List.filter_cons, e]
    by_cases c : x.1 = q
    · rw [if_neg (by rw [decide_eq_true c]; exact Bool.false_ne_true), if_neg (by simp [c])]; exact ih
    · rw [if_pos (by rw [decide_eq_false c]; rfl), if_pos (by simp [c])]; exact .cons h ih
theorem JF.del {kvs : List (Dt × Dt)} {xs : List (Key × Value)} (h : JF F kvs xs) {k : Dt} {q : Key} (hk : fk k = some q) : JF F (ddel kvs k) (without xs q) := by
  unfold JF at h ⊢
  unfold ddel without
  induction h with
  | nil => exact .nil
  | @cons p x ps xs h t ih =>
    have e : PyData.eqv p.1 k = decide (x.1 = q) := eqv_fk h.1 hk
    rw [List.filter_cons, List.filter_cons, e]
    by_cases c : x.1 = q
    · rw [if_neg (by rw [decide_eq_true c]; exact Bool.false_ne_true), if_neg (by simp [c])]; exact ih
    · rw [if_pos (by rw [decide_eq_false c]; rfl), if_pos (by simp [c])]; exact .cons h ih
end

/-! ### the rules -/
section
variable {X : Cx} {pins : List (Addr × Obj)} {σ : L2.St} {H : Hp} {s : Shared}
theorem raw_of {a : Addr} {es : Array DictEntry} (I : Inv X pins σ H s) (e : Rd H a (RawD a es)) : (a == sysModules) = false ∧ es.size ≤ sizeLine ∧ ∃ o ep, s.heap.get? a = some o ∧ o.ExactDict ∧ o.data = .dict es ep := (e.ok I.hok).1
/-- a dict asked for a key: of one kind or the other -/
def Way (X : Cx) (H : Hp) (s : Shared) (a : Addr) (kvs : List (Dt × Dt)) (k : Dt) (x : V) (u : Value) : Prop :=
  (∃ xs q b, x = .ref b ∧ u = .ref b ∧ nk k = some q ∧ tupKey k = true ∧ JT (RF X.prog X.w X.K H) kvs xs ∧ s.heap.DictOfH (nestedKind X.prog X.w) a xs ∧ (nestedKind X.prog X.w).is s.heap q b) ∨
  (∃ ys q, fk k = some q ∧ x = kV q ∧ (mixKind X.prog X.w).is q u = true ∧ JF (RF X.prog X.w X.K H) kvs ys ∧ s.heap.DictOf (mixKind X.prog X.w) a ys)
theorem dict_way {a : Addr} {es : Array DictEntry} {kvs : List (Dt × Dt)} {k : Dt} {x : V} {u : Value} (I : Inv X pins σ H s) (e : Rd H a (RawD a es)) (d : Dj X.prog X.w (RF X.prog X.w X.K H) kvs es) (hk : keyFor kvs k = true)
    (rx : RF X.prog X.w X.K H k x) (ru : RelV x u) : (a == sysModules) = false ∧ kvs.length ≤ sizeLine ∧ Way X H s a kvs k x u := by
  obtain ⟨hd, hz, o, ep, e1, e2, e3⟩ := raw_of I e
  have hs := d.size
  refine ⟨hd, by rw [← hs]; exact hz, ?_⟩
  have tup : ∀ xs, tupKey k = true → es.toList = xs.map (entryOfKey (nestedKind X.prog X.w)) → (xs.map (·.1)).Nodup → JT (RF X.prog X.w X.K H) kvs xs → Way X H s a kvs k x u := by
    intro xs ht h1 h2 h3
    obtain ⟨ds, ks, rfl, g1, g2, g3⟩ := tupKey_ok ht
    have rx' := rx
    rw [RF] at rx'
    obtain ⟨b, vs, rfl, _, _⟩ := rx'
    cases ru
    refine .inl ⟨xs, _, b, rfl, rfl, g2, ht, h3, ⟨o, es, ep, e1, e2, e3, h1, ?_, h2⟩, RF.nest I _ _ _ _ g2 rx rfl, g3⟩
    have all : ∀ {l : List (Dt × Dt)} {m : List (NestedKey × Addr × Value)}, JT (RF X.prog X.w X.K H) l m → ∀ z ∈ m, (nestedKind X.prog X.w).is s.heap z.1 z.2.1 := by
      intro l m p
      unfold JT at p
      induction p with
      | nil => intro z hz; exact nomatch hz
      | @cons p y ps ys h t ih =>
        intro z hz
        rcases List.mem_cons.mp hz with rfl | hz
        · obtain ⟨a1, a2, a3, _⟩ := h
          obtain ⟨_, ks', _, _, b3, b4⟩ := tupKey_ok a2
          have eq := Option.some.inj (a1.symm.trans b3)
          exact ⟨RF.nest I _ _ _ _ a1 a3 rfl, by rw [eq]; exact b4⟩
        · exact ih z hz
    exact all h3
  have flat : ∀ ys, flatKey k = true → KeysOf (mixKind X.prog X.w) es → Pairs (mixKind X.prog X.w) es.toList ys → (ys.map (·.1)).Nodup → JF (RF X.prog X.w X.K H) kvs ys → Way X H s a kvs k x u := by
    intro ys hf h1 h2 h3 h4
    obtain ⟨q, hq⟩ := flatKey_ok hf
    have hx : x = kV q := by
      rcases fk_nk hq with ⟨i, rfl, rfl⟩ | ⟨z, rfl, rfl⟩
      · rw [RF] at rx; exact rx
      · rw [RF] at rx; exact rx
    subst hx
    exact .inr ⟨ys, q, hq, rfl, kV_is ru, h4, o, es, ep, e1, e2, e3, h1, h2, h3⟩
  cases kvs with
  | nil =>
    have hn : es = #[] := by
      rw [List.length_nil] at hs
      exact Array.eq_empty_of_size_eq_zero hs
    subst hn
    have hk' : (tupKey k || flatKey k) = true := hk
    rw [Bool.or_eq_true] at hk'
    rcases hk' with c | c
    · exact tup [] c rfl List.nodup_nil .nil
    · exact flat [] c (fun _ he => by simp at he) .nil List.nodup_nil .nil
  | cons p r =>
    have hk' : ((tupKey p.1 && tupKey k) || (flatKey p.1 && flatKey k)) = true := hk
    rw [Bool.or_eq_true, Bool.and_eq_true, Bool.and_eq_true] at hk'
    rcases d with ⟨xs, h1, h2, h3⟩ | ⟨ys, h1, h2, h3, h4⟩
    · have ht : tupKey p.1 = true := by cases h3 with | cons h _ => exact h.2.1
      rcases hk' with c | c
      · exact tup xs c.2 h1 h2 h3
      · obtain ⟨_, _, e, _⟩ := tupKey_ok ht
        rw [e] at c
        exact absurd c.1 Bool.false_ne_true
    · have ht : flatKey p.1 = true := by cases h4 with | cons h _ => exact flat_of_fk h.1
      rcases hk' with c | c
      · obtain ⟨_, _, e, _⟩ := tupKey_ok c.1
        rw [e] at ht
        exact absurd ht Bool.false_ne_true
      · exact flat ys c.2 h1 h2 h3 h4
/-- what a dict at a holds -/
def Dd (X : Cx) (H : Hp) (a : Addr) (kvs : List (Dt × Dt)) : Prop := ∃ es, Rd H a (RawD a es) ∧ Dj X.prog X.w (RF X.prog X.w X.K H) kvs es
theorem RT.dd {kvs : List (Dt × Dt)} {v : V} (h : RT (gx X) H (.dict kvs) v) : ∃ a, v = .ref a ∧ Dd X H a kvs := by
  obtain ⟨a, es, vs, e, r, f, t⟩ := h.dict
  exact ⟨a, e, es, r, Dj.of f t⟩
theorem dd_get {a : Addr} {kvs : List (Dt × Dt)} {k y : Dt} {x : V} {u : Value} {Q : VK} (hu : X.A.units + 9 < cLine) (I : Inv X pins σ H s) (d : Dd X H a kvs) (hk : keyFor kvs k = true) (rx : RF X.prog X.w X.K H k x) (ru : RelV x u)
    (hy : dget kvs k = some y) (q : ∀ v, RF X.prog X.w X.K H y v → Q v H) : wpAny (model X.prog X.w) X.A (getItem (.ref a) u) (EP X pins σ Q) X.xe s := by
  obtain ⟨es, e, d⟩ := d
  obtain ⟨_, _, ⟨xs, z, b, rfl, rfl, h1, h2, h3, h4, h5⟩ | ⟨ys, z, h1, rfl, h2, h3, h4⟩⟩ := dict_way I e d hk rx ru
  · rcases h3.val h1 with ⟨d', p, v, e1, e2, e3, e4⟩ | ⟨e1, _⟩
    · rw [hy] at e1; cases e1
      exact wpAny_getItem_heap (knd := nestedKind X.prog X.w) (show X.A.in1.units + 8 < cLine from by show X.A.units + 1 + 8 < cLine; omega) h5 h4 e2 ⟨v, H, I.tok _, e4, q v e3⟩
    · rw [hy] at e1; cases e1
  · rcases h3.val h1 with ⟨d', p, v, e1, e2, e3, e4⟩ | ⟨e1, _⟩
    · rw [hy] at e1; cases e1
      exact wpAny_getItem_of h2 h4.mapOf e2 ⟨v, H, I.tok _, e4, q v e3⟩
    · rw [hy] at e1; cases e1
theorem dd_in {a : Addr} {kvs : List (Dt × Dt)} {k : Dt} {x : V} {u : Value} {Q : VK} (hu : X.A.units + 9 < cLine) (I : Inv X pins σ H s) (d : Dd X H a kvs) (hk : keyFor kvs k = true) (rx : RF X.prog X.w X.K H k x) (ru : RelV x u)
    (q : Q (.bl (dhas kvs k)) H) : wpAny (model X.prog X.w) X.A (compareOp .In u (.ref a)) (EP X pins σ Q) X.xe s := by
  obtain ⟨es, e, d⟩ := d
  obtain ⟨hd, _, ⟨xs, z, b, rfl, rfl, h1, h2, h3, h4, h5⟩ | ⟨ys, z, h1, rfl, h2, h3, h4⟩⟩ := dict_way I e d hk rx ru
  · refine wpAny_in_heap (knd := nestedKind X.prog X.w) (show X.A.in1.units + 8 < cLine from by show X.A.units + 1 + 8 < cLine; omega) h5 hd h4 ⟨_, H, I.tok _, ?_, q⟩
    unfold dhas
    rcases h3.val h1 with ⟨d', p, v, e1, e2, e3, e4⟩ | ⟨e1, e2⟩ <;> rw [e1, e2] <;> rfl
  · refine wpAny_in_of h2 hd h4.mapOf ⟨_, H, I.tok _, ?_, q⟩
    unfold dhas
    rcases h3.val h1 with ⟨d', p, v, e1, e2, e3, e4⟩ | ⟨e1, e2⟩ <;> rw [e1, e2] <;> rfl
theorem dd_notIn {a : Addr} {kvs : List (Dt × Dt)} {k : Dt} {x : V} {u : Value} {Q : VK} (hu : X.A.units + 9 < cLine) (I : Inv X pins σ H s) (d : Dd X H a kvs) (hk : keyFor kvs k = true) (rx : RF X.prog X.w X.K H k x) (ru : RelV x u)
    (q : Q (.bl (!dhas kvs k)) H) : wpAny (model X.prog X.w) X.A (compareOp .NotIn u (.ref a)) (EP X pins σ Q) X.xe s := by
  obtain ⟨es, e, d⟩ := d
  obtain ⟨hd, _, ⟨xs, z, b, rfl, rfl, h1, h2, h3, h4, h5⟩ | ⟨ys, z, h1, rfl, h2, h3, h4⟩⟩ := dict_way I e d hk rx ru
  · refine wpAny_notIn_heap (knd := nestedKind X.prog X.w) (show X.A.in1.units + 8 < cLine from by show X.A.units + 1 + 8 < cLine; omega) h5 hd h4 ⟨_, H, I.tok _, ?_, q⟩
    unfold dhas
    rcases h3.val h1 with ⟨d', p, v, e1, e2, e3, e4⟩ | ⟨e1, e2⟩ <;> rw [e1, e2] <;> rfl
  · refine wpAny_notIn_of h2 hd h4.mapOf ⟨_, H, I.tok _, ?_, q⟩
    unfold dhas
    rcases h3.val h1 with ⟨d', p, v, e1, e2, e3, e4⟩ | ⟨e1, e2⟩ <;> rw [e1, e2] <;> rfl
/-- a dict is written: what it holds then -/
theorem raw_write {a : Addr} {es es' : Array DictEntry} {h' : Heap} {t' : Nat} (I : Inv X pins σ H s) (e : H a = some (RawD a es)) (hs : Heap.SameBut a s.heap h') (hd : (a == sysModules) = false) (hz : es'.size ≤ sizeLine)
    {o : Obj} {ep : Nat} (he : h'.get? a = some o) (hc : o.ExactDict) (ho : o.data = .dict es' ep) : Inv X pins σ (upd H a (RawD a es')) { s with heap := h', toks := t' } :=
  d_write I (by rw [e]; exact True.intro) hs ⟨o, he⟩ ⟨⟨hd, hz, o, ep, he, hc, ho⟩, ⟨o, he⟩, fun h1 h2 ⟨a1, a2, o1, e1, b1, b2, b3⟩ k => ⟨a1, a2, o1, e1, k _ b1, b2, b3⟩⟩
theorem rf_upd {a : Addr} {o u : HO} (e : H a = some o) (nf : ¬ Fz o) (d : Dt) (v : V) (r : RF X.prog X.w X.K H d v) : RF X.prog X.w X.K (upd H a u) d v :=
  RF.mono (fun b o' q f => by rw [upd_ne (fun z => by rw [z, e] at q; cases q; exact nf f)]; exact q) d v r
theorem dd_set {a : Addr} {es : Array DictEntry} {kvs kvs' : List (Dt × Dt)} {k y : Dt} {x v : V} {u r : Value} {Q : Hp → Prop} (hu : X.A.units + 9 < cLine) (I : Inv X pins σ H s) (e : H a = some (RawD a es)) (d : Dj X.prog X.w (RF X.prog X.w X.K H) kvs es)
    (hk : dputs kvs k y = some kvs') (rx : RF X.prog X.w X.K H k x) (ru : RelV x u) (ry : RF X.prog X.w X.K H y v) (rr : RelV v r)
    (q : ∀ es', Dj X.prog X.w (RF X.prog X.w X.K (upd H a (RawD a es'))) kvs' es' → Q (upd H a (RawD a es'))) : wpAny (model X.prog X.w) X.A (setItem (.ref a) u r) (fun _ s' => ∃ H', Inv X pins σ H' s' ∧ Q H') X.xe s := by
  unfold dputs at hk
  split at hk
  · rename_i hc
    cases hk
    rw [Bool.and_eq_true, decide_eq_true_eq] at hc
    have up := fun (es' : Array DictEntry) (d : Dt) (v : V) => rf_upd (X := X) (u := RawD a es') e (fun z => z) d v
    obtain ⟨hd, hz, ⟨xs, z, b, rfl, rfl, h1, h2, h3, h4, h5⟩ | ⟨ys, z, h1, rfl, h2, h3, h4⟩⟩ := dict_way I (.inl e) d hc.1 rx ru
    · have hl : xs.length ≤ sizeLine := by rw [← Paired.length h3]; exact hz
      have j := h3.put h1 h2 rx ry rr
      refine wpAny_setItem_heap (hsz := hl) (knd := nestedKind X.prog X.w) (show X.A.in1.units + 8 < cLine from by show X.A.units + 1 + 8 < cLine; omega) h5 h4 fun h' dd hs => ?_
      obtain ⟨o, es', ep, a1, a2, a3, a4, _, a6⟩ := dd
      have dj : Dj X.prog X.w (RF X.prog X.w X.K H) (dput kvs k y) es' := .inl ⟨_, a4, a6, j⟩
      have hz' : es'.size ≤ sizeLine := by
        rw [dj.size]
        unfold dput
        split
        · rw [List.length_map]; exact hz
        · rw [List.length_append]; exact hc.2
      exact ⟨_, raw_write I e hs hd hz' a1 a2 a3, q es' (dj.map (up es'))⟩
    · have hl : ys.length ≤ sizeLine := by rw [← Paired.length h3]; exact hz
      have j := h3.put h1 rx ry rr
      refine wpAny_setItem_pairs (hsz := hl) h2 h4 fun h' dd hs => ?_
      obtain ⟨o, es', ep, a1, a2, a3, a4, a5, a6⟩ := dd
      have dj : Dj X.prog X.w (RF X.prog X.w X.K H) (dput kvs k y) es' := .inr ⟨_, a4, a5, a6, j⟩
      have hz' : es'.size ≤ sizeLine := by
        rw [dj.size]
        unfold dput
        split
        · rw [List.length_map]; exact hz
        · rw [List.length_append]; exact hc.2
      exact ⟨_, raw_write I e hs hd hz' a1 a2 a3, q es' (dj.map (up es'))⟩
  · cases hk
end
end EV
end

section
set_option autoImplicit false
set_option linter.all false
set_option maxRecDepth 100000
set_option Elab.async false
/-! EvCmp: comparisons, by values. -/
namespace EV
open PySem PySem.Spec PyProof.Rows L2
section
variable {X : Cx}
def rCmp (G : Wd) (o : CmpOp) : R2 := fun x y H Q => ∃ dx dy b, RT G H dx x ∧ RT G H dy y ∧ cmpD o dx dy = some b ∧ Q (.bl b) H
theorem lexI_eq : ∀ (a b : List Int), HT.lexLt a b = lexI a b
  | [], [] => rfl
  | [], _ :: _ => rfl
  | _ :: _, [] => rfl
  | x :: a, y :: b => by
    unfold HT.lexLt lexI
    rw [lexI_eq a b]
theorem RT.rf {G : Wd} {H : Hp} {x : Dt} {v : V} (h : RT G H x v) (hl : ∀ ds, x ≠ .list ds) (hd : ∀ ds, x ≠ .dict ds) : G.F H x v := by
  rcases (h.two hl) with h | ⟨a, vs, ds, e1, _⟩ | ⟨a, es, vs, kvs, e1, _⟩
  · exact h
  · exact absurd e1 (hl _)
  · exact absurd e1 (hd _)
theorem key_rf {G : Wd} {H : Hp} {kvs : List (Dt × Dt)} {x : Dt} {v : V} (h : RT G H x v) (hk : keyFor kvs x = true) : G.F H x v := by
  have c : tupKey x = true ∨ flatKey x = true := by
    cases kvs with
    | nil => exact Bool.or_eq_true_iff.mp hk
    | cons p r =>
      have hk' : ((tupKey p.1 && tupKey x) || (flatKey p.1 && flatKey x)) = true := hk
      rw [Bool.or_eq_true, Bool.and_eq_true, Bool.and_eq_true] at hk'
      rcases hk' with c | c
      · exact .inl c.2
      · exact .inr c.2
  refine h.rf (fun ds e => ?_) fun ds e => ?_
  · subst e; rcases c with c | c <;> cases c
  · subst e; rcases c with c | c <;> cases c
theorem rt_none {G : Wd} {H : Hp} {x : Dt} {v : V} (h : RT G H x v) : decide (v = .non) = isNone x := by
  cases x with
  | none => rw [h.none]; rfl
  | bool b => rw [h.bool]; rfl
  | int b => rw [h.int]; rfl
  | str b => rw [h.str]; rfl
  | tuple ds => obtain ⟨a, vs, rfl, _⟩ := h.tuple; rfl
  | list ds => obtain ⟨a, vs, rfl, _⟩ := h.list; rfl
  | dict ds => obtain ⟨a, es, vs, rfl, _⟩ := h.dict; rfl
theorem op_cmp (hu : X.A.units + 65 < cLine) (o : CmpOp) : OpR X (compareOp o) (rCmp (gx X) o) := by
  have eqs : ∀ {dx dy : Dt} {b : Bool}, eqD dx dy = some b → shaped dx = true ∧ shaped dy = true ∧ b = PyData.eqv dx dy := fun {dx dy b} e => by
    unfold eqD at e
    split at e
    · rename_i hc
      rw [Bool.and_eq_true] at hc
      cases e
      exact ⟨hc.1, hc.2, rfl⟩
    · cases e
  intro pins s σ H x y v u Q I rx ry h
  obtain ⟨dx, dy, b, hx, hy, e, q⟩ := h
  unfold cmpD at e
  split at e
  · obtain ⟨s1, s2, rfl⟩ := eqs e
    exact op_eqD (by omega) pins s σ H _ _ v u Q I rx ry ⟨_, _, hx.dp (SeqAt.canLay_of_shaped s1), hy.dp (SeqAt.canLay_of_shaped s2), s1, s2, q⟩
  · obtain ⟨b', e', rfl⟩ := Option.map_eq_some_iff.mp e
    obtain ⟨s1, s2, rfl⟩ := eqs e'
    exact op_neD (by omega) pins s σ H _ _ v u Q I rx ry ⟨_, _, hx.dp (SeqAt.canLay_of_shaped s1), hy.dp (SeqAt.canLay_of_shaped s2), s1, s2, q⟩
  · -- less
    unfold ltD at e
    split at e
    · cases e
      rw [hx.int] at rx; rw [hy.int] at ry
      exact op_lt pins s σ H _ _ v u Q I rx ry ⟨_, _, rfl, rfl, q⟩
    · split at e
      · rename_i ns ms e1 e2
        cases e
        obtain ⟨a, xs, rfl, sa, ra⟩ := hx.tuple
        obtain ⟨c, ys, rfl, sb, rb⟩ := hy.tuple
        obtain ⟨rfl, _⟩ := ra.ints e1
        obtain ⟨rfl, _⟩ := rb.ints e2
        exact op_ltT (by omega) pins s σ H _ _ v u Q I rx ry ⟨_, _, _, _, rfl, rfl, sa, sb, by rw [lexI_eq]; exact q⟩
      · cases e
    · cases e
  · cases e
    rw [hx.int] at rx; rw [hy.int] at ry
    exact op_le pins s σ H _ _ v u Q I rx ry ⟨_, _, rfl, rfl, q⟩
  · cases e
    rw [hx.int] at rx; rw [hy.int] at ry
    exact op_gt pins s σ H _ _ v u Q I rx ry ⟨_, _, rfl, rfl, q⟩
  · cases e
    rw [hx.int] at rx; rw [hy.int] at ry
    exact op_ge pins s σ H _ _ v u Q I rx ry ⟨_, _, rfl, rfl, q⟩
  · -- is None
    have hn := rt_none hx
    rw [hy.none] at ry
    refine op_isN pins s σ H _ _ v u Q I rx ry ⟨rfl, ?_⟩
    rw [hn]
    cases e
    exact q
  · have hn := rt_none hx
    rw [hy.none] at ry
    refine op_notN pins s σ H _ _ v u Q I rx ry ⟨rfl, ?_⟩
    rw [hn]
    cases e
    exact q
  · cases e
    rw [hx.bool] at rx; rw [hy.bool] at ry
    exact op_isBl pins s σ H _ _ v u Q I rx ry ⟨_, _, rfl, rfl, q⟩
  · cases e
    rw [hx.bool] at rx; rw [hy.bool] at ry
    exact op_notBl pins s σ H _ _ v u Q I rx ry ⟨_, _, rfl, rfl, q⟩
  · split at e
    · rename_i hc
      rw [Bool.and_eq_true] at hc
      cases e
      exact op_inD hu pins s σ H _ _ v u Q I rx ry ⟨_, _, hx.dp (SeqAt.canLay_of_shaped hc.1), hy.dp (SeqAt.canLay_of_shaped hc.2), hc.1, hc.2, q⟩
    · cases e
  · split at e
    · rename_i ys hc
      rw [Bool.and_eq_true] at hc
      cases e
      obtain ⟨as, r1⟩ := Dp.reads I dx x v (hx.dp (SeqAt.canLay_of_shaped hc.1)) rx
      obtain ⟨bs, r2⟩ := Dp.reads I (.tuple ys) y u (hy.dp (SeqAt.canLay_of_shaped hc.2)) ry
      exact SeqAt.in_tuple_reads r2 r1 (SeqAt.canLay_of_shaped hc.2) (SeqAt.canLay_of_shaped hc.1) (room_in_shaped hc.1 hu) ⟨.bl _, H, I, rfl, q⟩
    · cases e
  · split at e
    · rename_i hc
      rw [Bool.and_eq_true] at hc
      cases e
      exact op_notInD hu pins s σ H _ _ v u Q I rx ry ⟨_, _, hx.dp (SeqAt.canLay_of_shaped hc.1), hy.dp (SeqAt.canLay_of_shaped hc.2), hc.1, hc.2, q⟩
    · cases e
  · split at e
    · rename_i ys hc
      rw [Bool.and_eq_true] at hc
      cases e
      obtain ⟨as, r1⟩ := Dp.reads I dx x v (hx.dp (SeqAt.canLay_of_shaped hc.1)) rx
      obtain ⟨bs, r2⟩ := Dp.reads I (.tuple ys) y u (hy.dp (SeqAt.canLay_of_shaped hc.2)) ry
      exact SeqAt.notIn_tuple_reads r2 r1 (SeqAt.canLay_of_shaped hc.2) (SeqAt.canLay_of_shaped hc.1) (room_in_shaped hc.1 hu) ⟨.bl _, H, I, rfl, q⟩
    · cases e
  · split at e
    · rename_i hc
      cases e
      obtain ⟨a, rfl, d⟩ := hy.dd
      cases ry
      exact dd_in (by omega) I d hc (key_rf hx hc) rx q
    · cases e
  · split at e
    · rename_i hc
      cases e
      obtain ⟨a, rfl, d⟩ := hy.dd
      cases ry
      exact dd_notIn (by omega) I d hc (key_rf hx hc) rx q
    · cases e
  · cases e
    rw [hx.str] at rx; rw [hy.str] at ry
    exact op_in_str pins s σ H _ _ v u Q I rx ry ⟨_, _, rfl, rfl, q⟩
  · cases e
    rw [hx.str] at rx; rw [hy.str] at ry
    exact op_notin_str pins s σ H _ _ v u Q I rx ry ⟨_, _, rfl, rfl, by rw [Bool.not_not]; exact q⟩
  · cases e
end
end EV
end

section
set_option autoImplicit false
set_option linter.all false
set_option maxRecDepth 100000
set_option Elab.async false
/-! EvIdx: places, slices, by values. -/
namespace EV
open PySem PySem.Spec PyProof.Rows L2
section
variable {X : Cx}
/-- what is wanted of a value that comes at this time -/
def OutV (G : Wd) (H : Hp) (r : Val) (Q : VK) : Prop := ∃ μ st, SR G μ st H ∧ ∀ μ' st' z H', Step μ st H μ' st' H' → SR G μ' st' H' → RV G μ' st' H' r z → Q z H'
def rIx (G : Wd) : R2 := fun x y H Q => ∃ μ st vo vi r, SR G μ st H ∧ RV G μ st H vo x ∧ RV G μ st H vi y ∧ idxV vo vi st = .ok r st ∧ ∀ z, RV G μ st H r z → Q z H
theorem at_get {G : Wd} {H : Hp} {ds : List Dt} {vs : List V} {i : Int} {d : Dt} (r : G.Fs H ds vs) (e : at? ds i = some d) : ∃ v, atI vs i = some v ∧ G.F H d v := by
  unfold at? at e
  obtain ⟨j, h1, h2⟩ := Option.bind_eq_some_iff.mp e
  obtain ⟨v, h3, h4⟩ := r.get h2
  refine ⟨v, ?_, h4⟩
  unfold atI
  have h1' : ixN vs.length i = some j := by rw [← r.length]; exact h1
  rw [h1']; exact h3
theorem paired_get {α β : Type} {R : α → β → Prop} : ∀ {xs : List α} {ys : List β} {i : Nat} {x : α}, Paired R xs ys → xs[i]? = some x → ∃ y, ys[i]? = some y ∧ R x y
  | _, _, _, _, .nil, e => by simp at e
  | _, _, 0, _, .cons r _, e => by simp at e; subst e; exact ⟨_, rfl, r⟩
  | _, _, i + 1, x, .cons _ t, e => by
    obtain ⟨y, h1, h2⟩ := paired_get (i := i) (x := x) t (by simpa using e)
    exact ⟨y, by simpa using h1, h2⟩
theorem at_getV {G : Wd} {μ : Loc_} {st : Sto} {H : Hp} {ds : List Val} {vs : List V} {i : Int} {d : Val} (r : RVs G μ st H ds vs) (e : at? ds i = some d) : ∃ v, atI vs i = some v ∧ RV G μ st H d v := by
  unfold at? at e
  obtain ⟨j, h1, h2⟩ := Option.bind_eq_some_iff.mp e
  obtain ⟨v, h3, h4⟩ := paired_get r h2
  refine ⟨v, ?_, h4⟩
  unfold atI
  have h1' : ixN vs.length i = some j := by rw [← Paired.length r]; exact h1
  rw [h1']; exact h3
theorem ix_all (hu : X.A.units + 9 < cLine) : IxR X (rIx (gx X)) := by
  intro value slice pins s σ H x y v u Q I rx ry h hs
  obtain ⟨μ, st, vo, vi, r, sr, ro, ri, e, q⟩ := h
  -- data
  have dta : ∀ {a i d : Dt}, RT (gx X) H a x → (gx X).F H i y → idxD a i = some d → (∀ z, (gx X).F H d z → Q z H) → wpAny (model X.prog X.w) X.A (subscriptTail value slice v u) (EP X pins σ Q) X.xe s := by
    intro a i d ha hi e q
    unfold idxD at e
    split at e
    · obtain ⟨p, xs, rfl, sa, ra⟩ := ha.tuple
      have hy : y = .int _ := RT.int (.of hi)
      obtain ⟨z, e1, e2⟩ := at_get ra e
      exact ix_tup value slice pins s σ H _ y v u Q I rx ry ⟨p, xs, _, z, rfl, hy, sa, e1, q z e2⟩ hs
    · obtain ⟨p, xs, rfl, sa, ra⟩ := ha.list
      have hy : y = .int _ := RT.int (.of hi)
      obtain ⟨z, e1, e2⟩ := at_get ra e
      exact ix_list value slice pins s σ H _ y v u Q I rx ry ⟨p, xs, _, z, rfl, hy, sa, e1, q z e2⟩ hs
    · split at e
      · rename_i hf
        obtain ⟨c, e1, e2⟩ := Option.map_eq_some_iff.mp e
        subst e2
        have hx : x = .str _ := ha.str
        have hy : y = .int _ := RT.int (.of hi)
        exact ix_str value slice pins s σ H x y v u Q I rx ry ⟨_, _, c, hx, hy, fits_iff hf, e1, q _ (by show RF _ _ _ _ _ _; rw [RF])⟩ hs
      · cases e
    · split at e
      · rename_i hk
        obtain ⟨a, rfl, dd⟩ := ha.dd
        cases rx
        obtain ⟨es, e1, dj⟩ := id dd
        obtain ⟨_, _, o, ep, g1, g2, g3⟩ := raw_of I e1
        have hT : s.TypeIs (.ref a) "dict" := ⟨o, g1, g2.1⟩
        exact tail_any (ops := [.ref a, u]) hT F.slot_dict_getitem.lookup (dd_get hu I dd hk hi ry e q) hs
      · cases e
    · cases e
  cases vo with
  | d a =>
    cases vi with
    | d i =>
      unfold idxV at e
      cases c : idxD a i with
      | none => simp [c] at e
      | some d =>
        simp only [c, Res.ok.injEq, and_true] at e
        subst e
        exact dta (.of ro) ri c q
    | _ => simp [idxV] at e
  | ref n =>
    cases vi with
    | d i =>
      unfold idxV at e
      simp only at e
      cases c : st[n]? with
      | none => simp [c] at e
      | some k =>
        have ck := sr.cell n k c
        obtain ⟨hn, rfl⟩ := ro
        cases k with
        | lst xs =>
          simp only [c] at e
          cases c2 : idxD (.list xs) i with
          | none => simp [c2] at e
          | some d =>
            simp only [c2, Res.ok.injEq, and_true] at e
            subst e
            obtain ⟨vs, h1, h2⟩ := ck
            exact dta (.inl (.inr (.inl ⟨_, vs, xs, rfl, rfl, h1, h2⟩))) ri c2 q
        | dct xs =>
          simp only [c] at e
          cases c2 : idxD (.dict xs) i with
          | none => simp [c2] at e
          | some d =>
            simp only [c2, Res.ok.injEq, and_true] at e
            subst e
            obtain ⟨es, vs, h1, h2, h3⟩ := ck
            exact dta (.inl (.inr (.inr ⟨_, es, vs, xs, rfl, rfl, h1, h2, h3⟩))) ri c2 q
        | lsv xs =>
          simp only [c] at e
          cases i with
          | int k =>
            cases c2 : at? xs k with
            | none => simp [c2] at e
            | some d =>
              simp only [c2, Res.ok.injEq, and_true] at e
              subst e
              obtain ⟨vs, h1, h2⟩ := ck
              obtain ⟨z, e1, e2⟩ := at_getV h2 c2
              have hy : y = .int _ := RT.int (G := gx X) (H := H) (.of ri)
              exact ix_list value slice pins s σ H _ y v u Q I rx ry ⟨_, vs, _, z, rfl, hy, .of h1, e1, q z e2⟩ hs
          | _ => simp at e
        | dcv xs =>
          simp only [c] at e
          cases i with
          | str k =>
            cases c2 : xs.lookup k with
            | none => simp [c2] at e
            | some d =>
              simp only [c2, Res.ok.injEq, and_true] at e
              subst e
              obtain ⟨ws, h1, h2⟩ := ck
              have hy : y = .str k := RT.str (G := gx X) (H := H) (.of ri)
              subst hy
              have lk : ∀ {xs : List (Str × Val)} {ws : List (Key × V)}, Paired (fun (p : Str × Val) (q : Key × V) => q.1 = .inr p.1 ∧ RV (gx X) μ st H p.2 q.2) xs ws → xs.lookup k = some d → ∃ z, valV ws (Sum.inr k : Key) = some z ∧ RV (gx X) μ st H d z := by
                intro xs ws p
                induction p with
                | nil => intro e; cases e
                | @cons a b as bs r t ih =>
                  intro e
                  obtain ⟨a1, a2⟩ := a
                  rw [List.lookup_cons] at e
                  by_cases hk : k = a1
                  · subst hk
                    simp at e
                    subst e
                    exact ⟨b.2, valV_pos r.1, r.2⟩
                  · have : (k == a1) = false := by simpa using hk
                    rw [this] at e
                    obtain ⟨z, e1, e2⟩ := ih e
                    exact ⟨z, by rw [valV_neg (fun q => hk (Sum.inr.inj (q.symm.trans r.1)))]; exact e1, e2⟩
              obtain ⟨z, e1, e2⟩ := lk h2 c2
              cases rx
              have g : DGet H (μ n) (kV (.inr k)) (some z) := .inl ⟨ws, _, .inl h1, rfl, e1.symm⟩
              exact tail_any (ops := [.ref (μ n), u]) (dict_typeIs I g) F.slot_dict_getitem.lookup (d_getItem (by omega) I g ry fun w' s' I' r' => ⟨z, H, I', r', q z e2⟩) hs
          | _ => simp at e
        | kl xs => simp [c] at e
        | fz x =>
          simp only [c] at e
          cases c2 : idxD x i with
          | none => simp [c2] at e
          | some d =>
            simp only [c2, Res.ok.injEq, and_true] at e
            subst e
            exact dta (.of ck) ri c2 q
    | _ => simp [idxV] at e
  | err c fs => cases vi <;> simp [idxV] at e
  | fn f => cases vi <;> simp [idxV] at e
/-! ### slices -/
def rSl (G : Wd) : V → Option Int → Option Int → Hp → VK → Prop := fun x lo hi H Q => ∃ d z, RT G H d x ∧ sliD d lo hi = some z ∧ Out G H z Q
theorem sIx_cut (n d : Nat) (o : Option Int) : HT.sIx n d o = cutIx n d o := by cases o <;> rfl
theorem cut_rfs {G : Wd} {H : Hp} {ds : List Dt} {vs : List V} (r : G.Fs H ds vs) (lo hi : Option Int) : G.Fs H (cut ds lo hi) (cutV vs lo hi) := by
  unfold cut cutV
  rw [sIx_cut, sIx_cut, ← r.length]
  exact (r.drop _).take _
theorem sl_all : SlR X (rSl (gx X)) := by
  intro pins s σ H x v vl vu lo hi sl Q I rx hs pl pu h
  obtain ⟨d, z, hd, e, q⟩ := h
  unfold sliD at e
  split at e
  · cases e
    obtain ⟨a, xs, rfl, sa, ra⟩ := hd.tuple
    have rc := cut_rfs ra lo hi
    refine sl_tupA pins s σ H _ v vl vu lo hi sl Q I rx hs pl pu ⟨a, xs, rfl, sa, fun hw => ?_, fun _ p hp => out_tupN hp rc q⟩
    have e1 : cutV xs lo hi = xs := by
      unfold cutV
      rw [hw.1, hw.2, List.drop_zero, Nat.sub_zero, List.take_length]
    rw [e1] at rc
    exact out_tup sa rc q
  · cases e
    obtain ⟨a, xs, rfl, sa, ra⟩ := hd.list
    obtain ⟨T, id, h1, h2, h3⟩ := sl_list pins s σ H _ v vl vu lo hi sl (restQ Q) I rx hs pl pu ⟨a, xs, rfl, sa, rest_lst (cut_rfs ra lo hi) q⟩
    exact ⟨T, id, h1, h2, thn h3 fun _ _ e => EP.rest e⟩
  · split at e
    · rename_i hf
      cases e
      refine sl_str pins s σ H _ v vl vu lo hi sl Q I rx hs pl pu ⟨_, hd.str, fits_iff hf, ?_⟩
      have := out_str q
      unfold cutS
      rw [sIx_cut, sIx_cut]
      unfold cut at this
      rw [Array.length_toList] at this
      exact this
    · cases e
  · cases e
theorem _root_.L2.PE.rest {e : Expr} {t : TE} (h : PE X e t) : PE X e (fun σ H Q => t σ H (restQ Q)) := ⟨fun pins s σ H Q I q => thn (h.run pins s σ H _ I q) fun _ _ e => EP.rest e⟩
end
end EV
end

section
set_option autoImplicit false
set_option linter.all false
set_option maxRecDepth 100000
set_option Elab.async false
/-! EvJ: what loops go through. -/
namespace EV
open PySem PySem.Spec
open PyProof.Rows L2

/-- the walk J goes through xs, while the objects gs are as they were -/
def JOk (G : Wd) (J : It) (xs : List Val) (gs : List Nat) (μ : Loc_) (st : Sto) (H : Hp) : Prop :=
  xs.length ≤ sizeLine ∧ ∀ μ' st' H', Adv μ st H μ' st' H' → SR G μ' st' H' → Held gs st st' →
    (∀ (i : Nat) (v : Val), xs[i]? = some v → J.go i H' ∧ ∀ x H'', J.yld i H' x H'' → Grown H' H'' ∧ RV G μ' st' H'' v x) ∧ J.stop xs.length H'
/-- an iterable's reading -/
def RdI (G : Wd) (W : WX) (m : Env → M (List Val × List Nat)) : TI := fun σ H R => ∃ ρ st μ, EnvOk G μ st H ρ σ ∧ SR G μ st H ∧
  Post G (fun c d H' => W c d σ H') μ st H (m ρ st) fun q μ' st' H' => ∀ J, JOk G J q.1 q.2 μ' st' H' → R J H'
/-- a value that is walked, by values -/
def WalkR (X : Cx) (tg : Expr) (r : V → Hp → (It → Hp → Prop) → Prop) : Prop :=
  ∀ (pins : List (Addr × Obj)) (s : Shared) (σ : L2.St) (H : Hp) (x : V) (u : Value) (R : It → Hp → Prop), Inv X pins σ H s → RelV x u → r x H R →
    wpAny (model X.prog X.w) X.A (pyIter u) (PIE X pins σ tg R) X.xe s
theorem WalkR.pi {X : Cx} {tg e : Expr} {te : TE} {r : V → Hp → (It → Hp → Prop) → Prop} (h : WalkR X tg r) (he : PE X e te) : PI X tg e (fun σ H R => te σ H fun x H1 => r x H1 R) :=
  ⟨fun pins s σ H R I q => thn (he.run pins s σ H _ I q) fun u s1 ⟨x, H1, I1, rx, q1⟩ => h pins s1 σ H1 x u R I1 rx q1⟩
theorem _root_.L2.PI.imp {X : Cx} {tg e : Expr} {t u : TI} (h : PI X tg e t) (f : ∀ σ H Q, u σ H Q → t σ H Q) : PI X tg e u := ⟨fun pins s σ H Q I q => h.run pins s σ H Q I (f σ H Q q)⟩

/-- the keys of the dict at d, which rests -/
def Itw (d : Addr) (o : Obj) (es : Array DictEntry) : It :=
  ⟨fun i H => H d = some (.frz o (RawD d es)) ∧ i < es.size, fun i H x H' => H' = H ∧ ∃ en, es[i]? = some en ∧ RelV x en.key, fun i H => H d = some (.frz o (RawD d es)) ∧ es.size ≤ i⟩
/-- a key as a value without the heap -/
def KeyV (es : Array DictEntry) : Prop := ∀ (i : Nat) en, es[i]? = some en → ∃ x, RelV x en.key
section
variable {P : Program} {w : World} {K : PySem.W.Frag} {tg : Expr} {d : Addr} {o : Obj} {es : Array DictEntry} {ep : Nat}
theorem frz_raw {X : Cx} {pins : List (Addr × Obj)} {σ : L2.St} {H : Hp} {s : Shared} (I : Inv X pins σ H s) (h : H d = some (.frz o (RawD d es))) (hod : o.data = .dict es ep) : s.heap.get? d = some o ∧ (d == sysModules) = false ∧ o.ExactDict := by
  obtain ⟨g, q⟩ := I.hok d _ h
  obtain ⟨q1, _, o', ep', q3, q4, _⟩ := q.1
  have q3' : s.heap.get? d = some o' := q3
  rw [g] at q3'
  cases q3'
  exact ⟨g, q1, q4⟩
theorem turn_raw (it : Addr) (hod : o.data = .dict es ep) (hk : KeyV es) : Turn P w K tg (Itw d o es) [it] it (fun i h => h.IsKeyIter it d i es.size ep) where
  mem := List.mem_singleton.mpr rfl
  obj := fun i h q b hb => by
    cases List.mem_singleton.mp hb
    obtain ⟨o1, e1, _, e2⟩ := q
    exact ⟨o1, e1, fun v z => by rw [e2] at z; cases z⟩
  keep := fun i h h' q k => q.at fun o1 e1 => k it (List.mem_singleton.mpr rfl) o1 e1
  item := by
    intro X e1 e2 e3 calm i pins s σ H E I fp q go
    subst e1 e2 e3
    obtain ⟨a0, a1, a2, a3, a4, a5⟩ := fp it (List.mem_singleton.mpr rfl)
    obtain ⟨g1, g2, g3⟩ := frz_raw I go.1 hod
    have gi := go.2
    have en := Array.getElem?_eq_getElem gi
    obtain ⟨x, rx⟩ := hk i _ en
    refine next_key_item q g1 hod rfl en fun h' q' sb => ?_
    have J := I.turned (t' := s.toks) (fun b ob ne e => (sb.2 b ne).trans e) a0 a1 a3 a4 a5
    obtain ⟨o2, b1, b2, b3⟩ := id q'
    refine ⟨es[i].key, rfl, go_of (s := { s with heap := h' }) b1 b2 b3 (by decide) ⟨x, H, J, rx, ⟨rfl, _, en, rx⟩, q', fun b hb => ?_⟩⟩
    exact (fp b hb).1
  done := by
    intro X e1 e2 e3 calm i pins s σ H E I fp q stop
    subst e1 e2 e3
    obtain ⟨a0, a1, a2, a3, a4, a5⟩ := fp it (List.mem_singleton.mpr rfl)
    obtain ⟨g1, _, _⟩ := frz_raw I stop.1 hod
    exact next_key_end (I.ok.hd calm) q g1 hod rfl stop.2 fun h' eb => ⟨rfl, I.turned (t' := s.toks) (fun b ob ne e => eb b ob ne e) a0 a1 a3 a4 a5⟩
  self := fun A i s Q E q h => by
    refine wpAny_pyIter_slot q.typeIs F.slot_dict_keyiterator_iter (wpAny_call_entry F.slot_dict_keyiterator_iter q.typeIs F.entry_dict_keyiterator_iter (show wpAny _ _ (PySem.ret (Value.ref it)) _ _ s from ?_) (F.args_dict_keyiterator_iter_1 _))
    exact wpAny_pure ⟨_, rfl, "dict_keyiterator", _, q.typeIs, F.slot_dict_keyiterator_next.lookup, h⟩
end

section
variable {X : Cx} {tg : Expr}
theorem wk_list : WalkR X tg fun x H R => ∃ a, x = .ref a ∧ (∃ xs, SqL X.K H a xs) ∧ R (Itl X.K a) H := by
  rintro pins s σ H x u R I rx ⟨a, rfl, ⟨xs, sq⟩, q⟩
  cases rx
  obtain ⟨its, _, p, _⟩ := I.list sq
  exact wpAny_pyIter_list p.isList (pi_one (tk := s.toks) I _ (turn_list a _) ⟨_, Heap.get?_push_size _ rfl, rfl, rfl⟩ q)
theorem wk_tup : WalkR X tg fun x H R => ∃ a, x = .ref a ∧ (∃ xs, SqT X.K H a xs) ∧ R (Itt X.K a) H := by
  rintro pins s σ H x u R I rx ⟨a, rfl, ⟨xs, sq⟩, q⟩
  cases rx
  obtain ⟨its, _, p, _⟩ := I.tuple sq
  exact wpAny_pyIter_tuple (show s.heap.IsTuple a its.toArray from p) (pi_one (tk := s.toks) I _ (turn_tuple a _) ⟨_, Heap.get?_push_size _ rfl, rfl, rfl⟩ q)
theorem wk_str : WalkR X tg fun x H R => ∃ z, x = .str z ∧ R (Its z) H := by
  rintro pins s σ H x u R I rx ⟨z, rfl, q⟩
  obtain ⟨t, rfl⟩ := rx
  cases c : z.cps.all (· < 128)
  · exact wpAny_pyIter_wide c (pi_one (tk := s.toks) I _ (turn_str _ z t "str_iterator" (.inr rfl)) ⟨_, Heap.get?_push_size _ rfl, rfl, rfl⟩ q)
  · exact wpAny_pyIter_ascii c (pi_one (tk := s.toks) I _ (turn_str _ z t "str_ascii_iterator" (.inl rfl)) ⟨_, Heap.get?_push_size _ rfl, rfl, rfl⟩ q)
/-- a dict that rests, by its keys -/
theorem wk_raw : WalkR X tg fun x H R => ∃ d o es, x = .ref d ∧ H d = some (.frz o (RawD d es)) ∧ KeyV es ∧ R (Itw d o es) H := by
  rintro pins s σ H x u R I rx ⟨d, o, es, rfl, hd, hk, q⟩
  cases rx
  obtain ⟨g, q0⟩ := I.hok d _ hd
  obtain ⟨q1, _, o', ep, q3, q4, q5⟩ := q0.1
  have q3' : s.heap.get? d = some o' := q3
  rw [g] at q3'
  cases q3'
  exact iter_keys q1 g q4 q5 (pi_one (tk := s.toks) I _ (turn_raw _ q5 hk) ⟨_, Heap.get?_push_size _ rfl, rfl, rfl⟩ q)
/-- a dict that comes to rest -/
theorem wk_lock : WalkR X tg fun x H R => ∃ d es, x = .ref d ∧ H d = some (RawD d es) ∧ KeyV es ∧ ∀ o, R (Itw d o es) (upd H d (.frz o (RawD d es))) := by
  rintro pins s σ H x u R I rx ⟨d, es, rfl, hd, hk, q⟩
  obtain ⟨o, J⟩ := I.lock hd trivial
  exact wk_raw pins s σ _ _ u R J rx ⟨d, o, es, rfl, upd_same, hk, q o⟩
theorem WalkR.or {r r' : V → Hp → (It → Hp → Prop) → Prop} (h : WalkR X tg r) (h' : WalkR X tg r') : WalkR X tg fun x H R => r x H R ∨ r' x H R := fun pins s σ H x u R I rx q => by
  rcases q with q | q
  · exact h pins s σ H x u R I rx q
  · exact h' pins s σ H x u R I rx q

theorem Dj.keyV {P : Program} {w : World} {F : Dt → V → Prop} {kvs : List (Dt × Dt)} {es : Array DictEntry} (h : Dj P w F kvs es) : KeyV es := fun i en e => by
  obtain ⟨p, x, y, _, _, r, _⟩ := h.at e
  exact ⟨x, r⟩
theorem Rd.step {μ μ' : Loc_} {st st' : Sto} {H H' : Hp} {a : Addr} {xs : List V} (s : Step μ st H μ' st' H') (h : FzL H a xs) : SqL X.K H' a xs := .inl (h.fz s.fz).rd
/-- the lists -/
theorem jok_list {μ : Loc_} {st : Sto} {H : Hp} {a : Addr} {xs : List Val} {gs : List Nat} (hz : xs.length ≤ sizeLine)
    (h : ∀ μ' st' H', Adv μ st H μ' st' H' → SR (gx X) μ' st' H' → Held gs st st' → ∃ vs, SqL X.K H' a vs ∧ Paired (RV (gx X) μ' st' H') xs vs) : JOk (gx X) (Itl X.K a) xs gs μ st H := by
  refine ⟨hz, fun μ' st' H' s sr hd => ?_⟩
  obtain ⟨vs, sq, p⟩ := h μ' st' H' s sr hd
  refine ⟨fun i v e => ?_, vs, sq, by rw [← Paired.length p]; exact Nat.le_refl _⟩
  obtain ⟨x, e1, r⟩ := paired_get p e
  refine ⟨⟨vs, x, sq, e1⟩, fun y H'' q => ?_⟩
  obtain ⟨rfl, q⟩ := q
  have := q vs sq
  rw [e1] at this
  cases this
  exact ⟨.refl _, r⟩
theorem jok_tup {μ : Loc_} {st : Sto} {H : Hp} {a : Addr} {xs : List Val} {gs : List Nat} (hz : xs.length ≤ sizeLine)
    (h : ∀ μ' st' H', Adv μ st H μ' st' H' → SR (gx X) μ' st' H' → Held gs st st' → ∃ vs, SqT X.K H' a vs ∧ Paired (RV (gx X) μ' st' H') xs vs) : JOk (gx X) (Itt X.K a) xs gs μ st H := by
  refine ⟨hz, fun μ' st' H' s sr hd => ?_⟩
  obtain ⟨vs, sq, p⟩ := h μ' st' H' s sr hd
  refine ⟨fun i v e => ?_, vs, sq, by rw [← Paired.length p]; exact Nat.le_refl _⟩
  obtain ⟨x, e1, r⟩ := paired_get p e
  refine ⟨⟨vs, x, sq, e1⟩, fun y H'' q => ?_⟩
  obtain ⟨rfl, q⟩ := q
  have := q vs sq
  rw [e1] at this
  cases this
  exact ⟨.refl _, r⟩
theorem rfs_vals {G : Wd} {μ : Loc_} {st : Sto} {H : Hp} : ∀ {ds : List Dt} {vs : List V}, G.Fs H ds vs → Paired (RV G μ st H) (ds.map .d) vs
  | [], _, h => by
    have h' : RFs _ _ _ _ _ _ := h
    rw [RFs] at h'; subst h'; exact .nil
  | d :: ds, _, h => by
    have h' : RFs _ _ _ _ _ _ := h
    rw [RFs] at h'
    obtain ⟨x, r, rfl, h1, h2⟩ := h'
    exact .cons h1 (rfs_vals h2)
theorem jok_raw {μ : Loc_} {st : Sto} {H : Hp} {d : Addr} {o : Obj} {es : Array DictEntry} {kvs : List (Dt × Dt)} (hd : H d = some (.frz o (RawD d es))) (dj : Dj X.prog X.w (RF X.prog X.w X.K H) kvs es) (hz : es.size ≤ sizeLine) :
    JOk (gx X) (Itw d o es) (kvs.map fun p => .d p.1) [] μ st H := by
  have sz := dj.size
  refine ⟨by rw [List.length_map, ← sz]; exact hz, fun μ' st' H' s sr _ => ?_⟩
  have hd' := s.fz _ _ hd trivial
  refine ⟨fun i v e => ?_, hd', by rw [List.length_map, sz]; exact Nat.le_refl _⟩
  rw [List.getElem?_map] at e
  obtain ⟨p, e1, rfl⟩ := Option.map_eq_some_iff.mp e
  have hi : i < es.size := by rw [sz]; exact (List.getElem?_eq_some_iff.mp e1).1
  refine ⟨⟨hd', hi⟩, fun x H'' q => ?_⟩
  obtain ⟨rfl, en, e2, r⟩ := q
  obtain ⟨p', x', y, e3, r1, r2, _⟩ := dj.at e2
  rw [e1] at e3
  cases e3
  rw [r.inj r2]
  exact ⟨.refl _, RF.mono s.fz _ _ r1⟩
theorem jok_str {μ : Loc_} {st : Sto} {H : Hp} {z : Str} (hz : z.length ≤ sizeLine) : JOk (gx X) (Its z) ((signs z).map .d) [] μ st H := by
  refine ⟨by simp [signs]; exact hz, fun μ' st' H' s sr _ => ?_⟩
  refine ⟨fun i v e => ?_, by show z.cps.size ≤ _; simp [signs]⟩
  rw [List.getElem?_map] at e
  obtain ⟨p, e1, rfl⟩ := Option.map_eq_some_iff.mp e
  unfold signs at e1
  rw [List.getElem?_map] at e1
  obtain ⟨c, e2, rfl⟩ := Option.map_eq_some_iff.mp e1
  rw [Array.getElem?_toList] at e2
  refine ⟨(Array.getElem?_eq_some_iff.mp e2).1, fun x H'' q => ?_⟩
  obtain ⟨rfl, c', e3, rfl⟩ := q
  rw [e2] at e3
  cases e3
  exact ⟨.refl _, by show RF _ _ _ _ _ _; rw [RF]⟩
/-- what comes of the items of a value -/
def rItems (G : Wd) : V → Hp → (It → Hp → Prop) → Prop := fun x H R => ∃ μ st v, SR G μ st H ∧ RV G μ st H v x ∧ ∃ q st', itemsV v st = .ok q st' ∧
  ∀ μ' H', Step μ st H μ' st' H' → SR G μ' st' H' → ∀ J, JOk G J q.1 q.2 μ' st' H' → R J H'
theorem wk_items : WalkR X tg (rItems (gx X)) := by
  intro pins s σ H x u R I rx h
  obtain ⟨μ, st, v, sr, rv, q, st', e, k⟩ := h
  have here := fun (e' : st = st') => k μ H (by rw [← e']; exact .refl _ _ _) (by rw [← e']; exact sr)
  have dta : ∀ {y : Dt} {ys : List Dt}, (gx X).F H y x → itemsD y = some ys → st = st' → q = (ys.map .d, []) → wpAny (model X.prog X.w) X.A (pyIter u) (PIE X pins σ tg R) X.xe s := by
    intro y ys ry ey es eq
    have kk := here es
    rw [eq] at kk
    subst es
    have ry' : RF _ _ _ _ _ _ := ry
    cases y with
    | none => cases ey
    | bool b => cases ey
    | int i => cases ey
    | str z =>
      have ey' : (if fits z.length then some (signs z) else none) = some ys := ey
      by_cases hf : fits z.length = true
      · rw [if_pos hf] at ey'
        cases ey'
        rw [RF] at ry'
        exact wk_str pins s σ H x u R I rx ⟨z, ry', kk _ (jok_str (fits_iff hf))⟩
      · rw [if_neg hf] at ey'
        cases ey'
    | list ds =>
      cases ey
      rw [RF] at ry'
      obtain ⟨a, vs, ex, f, r⟩ := ry'
      refine wk_list pins s σ H x u R I rx ⟨a, ex, ⟨vs, .inl f.rd⟩, kk _ (jok_list (by rw [List.length_map, r.length]; exact (Inv.rd0 I f.rd).1) fun μ' st' H' s' sr' _ => ⟨vs, .inl (f.fz s'.fz).rd, rfs_vals (RFs.mono s'.fz _ _ r)⟩)⟩
    | tuple ds =>
      cases ey
      rw [RF] at ry'
      obtain ⟨a, vs, ex, f, r⟩ := ry'
      refine wk_tup pins s σ H x u R I rx ⟨a, ex, ⟨vs, f⟩, kk _ (jok_tup (by rw [List.length_map, r.length]; exact (I.tuple f).choose_spec.2.2) fun μ' st' H' s' sr' _ => ⟨vs, SqT.fz s'.fz f, rfs_vals (RFs.mono s'.fz _ _ r)⟩)⟩
    | dict kvs =>
      cases ey
      rw [RF] at ry'
      obtain ⟨a, o, es, vs, ex, f, r, t⟩ := ry'
      have dj := Dj.of r t
      refine wk_raw pins s σ H x u R I rx ⟨a, o, es, ex, f, dj.keyV, kk _ ?_⟩
      have := jok_raw (μ := μ) (st := st) f dj (raw_of I (.inr ⟨o, f⟩)).2.1
      rw [List.map_map]
      exact this
  cases v with
  | d y =>
    unfold itemsV at e
    simp only at e
    cases c : itemsD y with
    | none => simp [c] at e
    | some ys =>
      simp only [c, Res.ok.injEq] at e
      exact dta rv c e.2 e.1.symm
  | ref n =>
    obtain ⟨hn, rfl⟩ := rv
    unfold itemsV at e
    simp only at e
    cases c : st[n]? with
    | none => simp [c] at e
    | some cl =>
      have ck := sr.cell n cl c
      cases cl with
      | lst xs =>
        simp only [c, Res.ok.injEq] at e
        have kk := here e.2
        rw [← e.1] at kk
        obtain ⟨vs, h1, h2⟩ := ck
        have hes := e.2
        subst hes
        refine wk_list pins s σ H _ u R I rx ⟨_, rfl, ⟨vs, .of h1⟩, kk _ (jok_list (by rw [List.length_map, h2.length]; exact (Inv.rd0 I (.inl h1)).1) fun μ' st' H' s' sr' hh => ?_)⟩
        have c' : st'[n]? = some (.lst xs) := (hh n (List.mem_singleton.mpr rfl)).trans c
        obtain ⟨vs', h3, h4⟩ := sr'.cell n _ c'
        rw [s'.mu n hn] at h3
        exact ⟨vs', .of h3, rfs_vals h4⟩
      | dct kvs =>
        simp only [c, Res.ok.injEq] at e
        obtain ⟨e1, e2⟩ := e
        obtain ⟨es, vs, h1, h2, h3⟩ := ck
        have dj := Dj.of h2 h3
        refine wk_lock pins s σ H _ u R I rx ⟨_, es, rfl, h1, dj.keyV, fun o => ?_⟩
        have fr : (upd H (μ n) (.frz o (RawD (μ n) es))) (μ n) = some (.frz o (RawD (μ n) es)) := upd_same
        have hs : Step μ st H μ (st.set n (.fz (.dict kvs))) (upd H (μ n) (.frz o (RawD (μ n) es))) := Step.put sr c rfl
        have dj' : Dj X.prog X.w (RF X.prog X.w X.K (upd H (μ n) (.frz o (RawD (μ n) es)))) kvs es := dj.map fun d v r => RF.mono hs.fz d v r
        obtain ⟨vs', t1, t2⟩ := dj'.to
        have hsr := sr.put (c' := .fz (.dict kvs)) (u := .frz o (RawD (μ n) es)) c rfl (by
          show RF _ _ _ _ _ _
          rw [RF]
          exact ⟨_, o, es, vs', rfl, upd_same, t1, t2⟩)
        rw [e2] at hs hsr
        have kk := k μ _ hs hsr
        rw [← e1] at kk
        exact kk _ (jok_raw fr dj' (raw_of I (.inl h1)).2.1)
      | lsv xs =>
        simp only [c, Res.ok.injEq] at e
        have kk := here e.2
        rw [← e.1] at kk
        obtain ⟨vs, h1, h2⟩ := ck
        have hes := e.2
        subst hes
        refine wk_list pins s σ H _ u R I rx ⟨_, rfl, ⟨vs, .of h1⟩, kk _ (jok_list (by rw [Paired.length h2]; exact (Inv.rd0 I (.inl h1)).1) fun μ' st' H' s' sr' hh => ?_)⟩
        have c' : st'[n]? = some (.lsv xs) := (hh n (List.mem_singleton.mpr rfl)).trans c
        obtain ⟨vs', h3, h4⟩ := sr'.cell n _ c'
        rw [s'.mu n hn] at h3
        exact ⟨vs', .of h3, h4⟩
      | kl xs =>
        simp only [c, Res.ok.injEq] at e
        have kk := here e.2
        rw [← e.1] at kk
        obtain ⟨vs, h1, h2⟩ := ck
        have hes := e.2
        subst hes
        refine wk_list pins s σ H _ u R I rx ⟨_, rfl, ⟨vs, .inr h1⟩, kk _ (jok_list (by rw [List.length_map, h2.length]; exact (Inv.rdl I (.inr h1)).1) fun μ' st' H' s' sr' hh => ⟨vs, .inr h1, rfs_vals (RFs.mono s'.fz _ _ h2)⟩)⟩
      | dcv kvs => simp [c] at e
      | fz y =>
        simp only [c] at e
        cases c2 : itemsD y with
        | none => simp [c2] at e
        | some ys =>
          simp only [c2, Res.ok.injEq] at e
          exact dta ck c2 e.2 e.1.symm
  | err cc fs => simp [itemsV] at e
  | fn f => simp [itemsV] at e
/-- the items of an expression's value -/
theorem pi_val {W : WX} {e : Expr} {m : Env → M Val} (h : PE X e (RdE (gx X) W m)) : PI X tg e (RdI (gx X) W fun ρ => bnd (m ρ) itemsV) := by
  refine (wk_items.pi h).imp fun σ H R hh => ?_
  obtain ⟨ρ, st, μ, en, sr, p⟩ := hh
  refine ⟨ρ, st, μ, en, sr, (Post.bnd p).imp fun v μ1 st1 H1 s1 sr1 q1 x rx => ⟨μ1, st1, v, sr1, rx, ?_⟩⟩
  cases c : itemsV v st1 with
  | ok q st' =>
    rw [c] at q1
    exact ⟨q, st', rfl, q1⟩
  | err ee st' =>
    exfalso
    unfold itemsV at c
    split at c <;> (try cases c) <;> (split at c <;> (try cases c)) <;> (split at c <;> cases c)
  | bad => rw [c] at q1; exact q1.elim
end
end EV
end

section
set_option autoImplicit false
set_option linter.all false
set_option maxRecDepth 100000
set_option Elab.async false
/-! EvE: the terms' rules. -/
namespace EV
open PySem PySem.Spec
open PyProof.Rows L2

section
variable {G : Wd} {W : Value → Option Addr → Hp → Prop} {μ : Loc_} {st : Sto} {H : Hp}
theorem Post.ok {α : Type} {a : α} {k : α → Loc_ → Sto → Hp → Prop} (sr : SR G μ st H) (h : Post G W μ st H (.ok a st) k) : k a μ st H := h μ H (.refl _ _ _) sr
theorem Post.asBool {β : Type} {v : Val} {f : Bool → M β} {k : β → Loc_ → Sto → Hp → Prop} (h : Post G W μ st H (EV.bnd (EV.asBool v) f st) k) : ∃ b, v = bv b ∧ Post G W μ st H (f b st) k := by
  obtain ⟨b, e, h⟩ := Post.opt h
  refine ⟨b, ?_, h⟩
  cases v with
  | d x =>
    cases x with
    | bool c => cases e; rfl
    | _ => cases e
  | _ => cases e
theorem Post.asBool0 {v : Val} {k : Bool → Loc_ → Sto → Hp → Prop} (sr : SR G μ st H) (h : Post G W μ st H (EV.asBool v st) k) : ∃ b, v = bv b ∧ k b μ st H := by
  have h' : Post G W μ st H (EV.bnd (EV.asBool v) EV.ret st) k := by
    unfold EV.bnd
    revert h
    cases EV.asBool v st <;> exact fun z => z
  obtain ⟨b, e, q⟩ := h'.asBool
  exact ⟨b, e, Post.ok sr q⟩
theorem rv_bool {b : Bool} {x : V} (r : RV G μ st H (bv b) x) : x = .bl b := by
  have r' : RF _ _ _ _ _ _ := r
  rwa [RF] at r'
theorem rf_bool (b : Bool) : RV G μ st H (bv b) (.bl b) := by show RF _ _ _ _ _ _; rw [RF]
theorem rf_int (i : Int) : G.F H (.int i) (.int i) := by show RF _ _ _ _ _ _; rw [RF]
theorem rf_str (i : Str) : G.F H (.str i) (.str i) := by show RF _ _ _ _ _ _; rw [RF]
theorem rf_none : G.F H .none .non := by show RF _ _ _ _ _ _; rw [RF]
/-- a piece of data, in a grown heap -/
theorem Post.out {z : Dt} {k : Val → Loc_ → Sto → Hp → Prop} {Q : VK} (sr : SR G μ st H) (h : Post G W μ st H (EV.ret (Val.d z) st) fun v μ' st' H' => ∀ x, RV G μ' st' H' v x → Q x H') : Out G H z Q :=
  fun x H' g r => h μ H' g.step (sr.grown g) x r
end

section
variable {X : Cx} {C : Ctx} {W : WX} {a b c : Expr} {ma mb mc : Env → M Val} {pos : Pos}
/-! ### names, constants -/
theorem e_var {i : Nat} {x : Str} (hN : X.N[i]? = some x) (hv : Vis X.env.scope x) (h1 : (x == ("__debug__" : Str)) = false) (h2 : (x == ("__classdict__" : Str)) = false) :
    PE X (.Name x pos) (RdE (gx X) W fun ρ => lookEnv ρ i) := (pe_var hN hv h1 h2).imp fun σ H Q h => by
  obtain ⟨ρ, st, μ, en, sr, p⟩ := h
  have p : Post _ _ _ _ _ (lookEnv ρ i st) _ := p
  unfold lookEnv at p
  split at p
  · rename_i v e
    obtain ⟨x, e1, r⟩ := en.2 i v e
    exact ⟨x, e1, p.ok sr x r⟩
  · exact p.elim
theorem tC_of {x : Dt} {v : V} {o : Option Dt} (h : o = some x) (r : ∀ H, (gx X).F H x v) : ∀ σ H Q, RdE (gx X) W (fun _ => bnd (opt o) fun x => ret (.d x)) σ H Q → tC v σ H Q := fun σ H Q hh => by
  subst h
  obtain ⟨ρ, st, μ, en, sr, p⟩ := hh
  exact Post.ok (a := Val.d x) sr p v (r H)
theorem e_con {k : Const} {j : Nat} {x : Dt} (h : conD k = some x) : PE X (.Constant k j pos) (RdE (gx X) W fun _ => bnd (opt (conD k)) fun x => ret (.d x)) := by
  cases k with
  | none => exact pe_non.imp (tC_of h fun H => by cases h; exact rf_none)
  | bool b => exact pe_bl.imp (tC_of h fun H => by cases h; show RF _ _ _ _ _ _; rw [RF])
  | int i => exact pe_int.imp (tC_of h fun H => by cases h; exact rf_int _)
  | str i => exact pe_str.imp (tC_of h fun H => by cases h; exact rf_str _)
  | _ => cases h
/-- a constant of the module -/
def GFact (X : Cx) (x : Str) (d : Dt) : Prop := ∃ v u, X.mg x = some u ∧ RelV v u ∧ ∀ H, RF X.prog X.w X.K H d v
theorem e_glb {j : Nat} {x : Str} {d : Dt} (h : C.gs[j]? = some (x, d)) (hg : Gl X x) (f : GFact X x d) (h1 : (x == ("__debug__" : Str)) = false) : PE X (.Name x pos) (RdE (gx X) W fun _ => bnd (opt (C.gs[j]?)) fun p => ret (.d p.2)) := by
  obtain ⟨v, u, hm, r, hr⟩ := f
  refine (pe_glob hg hm r h1).imp fun σ H Q hh => ?_
  rw [h] at hh
  obtain ⟨ρ, st, μ, en, sr, p⟩ := hh
  exact Post.ok (a := Val.d d) sr p v (hr H)
/-! ### operators -/
theorem e_bin {o : Operator} (ha : PE X a (RdE (gx X) W ma)) (hb : PE X b (RdE (gx X) W mb)) : PE X (.BinOp a o b pos)
    (RdE (gx X) W fun ρ => bnd (ma ρ) fun v => bnd (mb ρ) fun w => bnd (dat2 v) fun x => bnd (dat2 w) fun y => bnd (opt (binD o x y)) fun z => ret (.d z)) :=
  (pe_op (op_bin o) ha hb).imp fun σ H Q h => rd2 h fun v w μ st H2 x y sr rx ry p => by
    obtain ⟨dx, e1, p⟩ := p.dat2
    obtain ⟨dy, e2, p⟩ := p.dat2
    obtain ⟨dz, e3, p⟩ := p.opt
    exact ⟨dx, dy, dz, sr.look2 rx e1, sr.look2 ry e2, e3, Post.out (k := fun _ _ _ _ => True) sr p⟩
theorem cmp_of {o : CmpOp} {v w : Val} {μ : Loc_} {st : Sto} {H : Hp} {x y : V} {W : Value → Option Addr → Hp → Prop} {k : Val → Loc_ → Sto → Hp → Prop} (sr : SR (gx X) μ st H) (rx : RV (gx X) μ st H v x) (ry : RV (gx X) μ st H w y)
    (p : Post (gx X) W μ st H (cmpV o v w st) k) : ∃ dx dy b, RT (gx X) H dx x ∧ RT (gx X) H dy y ∧ cmpD o dx dy = some b ∧ cmpV o v w st = .ok (bv b) st ∧ k (bv b) μ st H := by
  have p0 := p
  unfold cmpV at p
  obtain ⟨dx, e1, p⟩ := p.dat
  obtain ⟨dy, e2, p⟩ := p.dat
  obtain ⟨b, e3, p⟩ := p.opt
  refine ⟨dx, dy, b, sr.look rx e1, sr.look ry e2, e3, ?_, Post.ok sr p⟩
  unfold cmpV
  simp [EV.bnd, EV.dat, e1, e2, e3, EV.opt, EV.ret]
theorem e_cmp {o : CmpOp} (hu : X.A.units + 65 < cLine) (ha : PE X a (RdE (gx X) W ma)) (hb : PE X b (RdE (gx X) W mb)) (hm : behindInMarks o b = false) :
    PE X (.Compare a [o] [b] pos) (RdE (gx X) W fun ρ => bnd (ma ρ) fun v => bnd (mb ρ) fun w => cmpV o v w) :=
  (pe_cmpR (op_cmp hu o) ha hb hm).imp fun σ H Q h => rd2 h fun v w μ st H2 x y sr rx ry p => by
    obtain ⟨dx, dy, b, h1, h2, h3, _, q⟩ := cmp_of sr rx ry p
    exact ⟨dx, dy, b, h1, h2, h3, q _ (rf_bool b)⟩
/-- two pieces as a test -/
theorem rd2T {f : Val → Val → M Bool} {σ : L2.St} {H : Hp} {Q : Bool → Hp → Prop} {R : V → V → Hp → Prop}
    (h : RdT (gx X) W (fun ρ => bnd (ma ρ) fun v => bnd (mb ρ) fun w => f v w) σ H Q)
    (g : ∀ v w μ st H2 x y, SR (gx X) μ st H2 → RV (gx X) μ st H2 v x → RV (gx X) μ st H2 w y → Post (gx X) (fun c d H' => W c d σ H') μ st H2 (f v w st) (fun b _ _ H' => Q b H') → R x y H2) :
    RdE (gx X) W ma σ H fun x H1 => RdE (gx X) W mb σ H1 fun y H2 => R x y H2 := by
  obtain ⟨ρ, st, μ, en, sr, p⟩ := h
  refine ⟨ρ, st, μ, en, sr, (Post.bnd p).imp fun v μ1 st1 H1 s1 sr1 q1 x rx => ⟨ρ, st1, μ1, en.step s1, sr1, (Post.bnd q1).imp fun w μ2 st2 H2 s2 sr2 q2 y ry => ?_⟩⟩
  exact g v w μ2 st2 H2 x y sr2 (rx.step s2) ry q2
theorem bnd_assoc {α β γ : Type} (m : M α) (f : α → M β) (g : β → M γ) : bnd (bnd m f) g = bnd m fun a => bnd (f a) g := by
  funext st
  unfold bnd
  cases m st <;> rfl
theorem t_cmp {o : CmpOp} (hu : X.A.units + 65 < cLine) (ha : PE X a (RdE (gx X) W ma)) (hb : PE X b (RdE (gx X) W mb)) (hm : behindInMarks o b = false) :
    PT X (.Compare a [o] [b] pos) (RdT (gx X) W fun ρ => bnd (bnd (ma ρ) fun v => bnd (mb ρ) fun w => cmpV o v w) asBool) :=
  (pt_cmpR (op_cmp hu o) ha hb hm).imp fun σ H Q h => by
    simp only [bnd_assoc] at h
    refine rd2T h fun v w μ st H2 x y sr rx ry p => ?_
    obtain ⟨dx, dy, b, h1, h2, h3, e, q⟩ := cmp_of sr rx ry p.bnd
    obtain ⟨k, e2, q⟩ := Post.asBool0 sr q
    cases e2
    exact ⟨dx, dy, b, h1, h2, h3, b, rfl, q⟩
/-- as a test -/
theorem t_val {e : Expr} {m : Env → M Val} (h : PE X e (RdE (gx X) W m)) (he : ∀ whole, isTrue e X.env whole = (do let v ← whole; standAt e.pos; holding [v] (truthy v))) : PT X e (RdT (gx X) W fun ρ => bnd (m ρ) asBool) :=
  (pt_val h he).imp fun σ H Q q => by
    obtain ⟨ρ, st, μ, en, sr, p⟩ := q
    refine ⟨ρ, st, μ, en, sr, (Post.bnd p).imp fun v μ' st' H' s' sr' q' x rx => ?_⟩
    obtain ⟨k, e2, q2⟩ := Post.asBool0 sr' q'
    subst e2
    exact ⟨k, rv_bool rx, q2⟩
/-- a op b op' c -/
theorem chain_rd {o o' : CmpOp} {σ : L2.St} {H : Hp} {Q : VK} (h : RdE (gx X) W (fun ρ => bnd (ma ρ) fun v => bnd (mb ρ) fun w => bnd (cmpV o v w) fun r => bnd (asBool r) fun k => if k then bnd (mc ρ) fun u => cmpV o' w u else ret (bv false)) σ H Q) :
    tChain (rCmp (gx X) o) (rCmp (gx X) o') (RdE (gx X) W ma) (RdE (gx X) W mb) (RdE (gx X) W mc) σ H Q := by
  obtain ⟨ρ, st, μ, en, sr, p⟩ := h
  refine ⟨ρ, st, μ, en, sr, (Post.bnd p).imp fun v μ1 st1 H1 s1 sr1 q1 x rx => ⟨ρ, st1, μ1, en.step s1, sr1, (Post.bnd q1).imp fun w μ2 st2 H2 s2 sr2 q2 y ry => ?_⟩⟩
  obtain ⟨dx, dy, b, h1, h2, h3, e, q⟩ := cmp_of sr2 (rx.step s2) ry q2.bnd
  obtain ⟨k, e2, q⟩ := q.asBool
  cases e2
  refine ⟨dx, dy, b, h1, h2, h3, b, rfl, ?_⟩
  cases b with
  | false => exact Post.ok (a := bv false) sr2 q _ (rf_bool false)
  | true =>
    rw [if_pos rfl]
    refine ⟨ρ, st2, μ2, (en.step s1).step s2, sr2, (Post.bnd (show Post _ _ _ _ _ (EV.bnd (mc ρ) _ st2) _ from q)).imp fun u μ3 st3 H3 s3 sr3 q3 z rz => ?_⟩
    obtain ⟨dx, dy, b, h1, h2, h3, e, q⟩ := cmp_of sr3 (ry.step s3) rz q3
    exact ⟨dx, dy, b, h1, h2, h3, q _ (rf_bool b)⟩
theorem e_chn {o o' : CmpOp} (hu : X.A.units + 65 < cLine) (ha : PE X a (RdE (gx X) W ma)) (hb : PE X b (RdE (gx X) W mb)) (hc : PE X c (RdE (gx X) W mc)) (hm : lastMarks [o, o'] [b, c] = false) :
    PE X (.Compare a [o, o'] [b, c] pos) (RdE (gx X) W fun ρ => bnd (ma ρ) fun v => bnd (mb ρ) fun w => bnd (cmpV o v w) fun r => bnd (asBool r) fun k => if k then bnd (mc ρ) fun u => cmpV o' w u else ret (bv false)) :=
  (pe_chain (op_cmp hu o) (op_cmp hu o') ha hb hc hm).imp fun σ H Q h => chain_rd h
/-- what is wanted of a truth as what is wanted of a value -/
theorem rdT_rdE {m : Env → M Val} {σ : L2.St} {H : Hp} {Q : Bool → Hp → Prop} (h : RdT (gx X) W (fun ρ => bnd (m ρ) asBool) σ H Q) : RdE (gx X) W m σ H fun x H' => ∃ k, x = .bl k ∧ Q k H' := by
  obtain ⟨ρ, st, μ, en, sr, p⟩ := h
  refine ⟨ρ, st, μ, en, sr, (Post.bnd p).imp fun v μ' st' H' s' sr' q' x rx => ?_⟩
  obtain ⟨k, e2, q2⟩ := Post.asBool0 sr' q'
  subst e2
  exact ⟨k, rv_bool rx, q2⟩
theorem t_chn {o o' : CmpOp} (hu : X.A.units + 65 < cLine) (ha : PE X a (RdE (gx X) W ma)) (hb : PE X b (RdE (gx X) W mb)) (hc : PE X c (RdE (gx X) W mc)) (hm : lastMarks [o, o'] [b, c] = false) :
    PT X (.Compare a [o, o'] [b, c] pos) (RdT (gx X) W fun ρ => bnd (bnd (ma ρ) fun v => bnd (mb ρ) fun w => bnd (cmpV o v w) fun r => bnd (asBool r) fun k => if k then bnd (mc ρ) fun u => cmpV o' w u else ret (bv false)) asBool) :=
  (pt_chain (op_cmp hu o) (op_cmp hu o') ha hb hc hm).imp fun σ H Q h => chain_rd (rdT_rdE h)
/-! ### not, and, or, if -/
theorem e_not (ha : PE X a (RdE (gx X) W ma)) : PE X (.UnaryOp .Not a pos) (RdE (gx X) W fun ρ => bnd (ma ρ) fun v => bnd (asBool v) fun k => ret (bv (!k))) :=
  (pe_not ha).imp fun σ H Q h => rd1 h fun v μ st H1 x sr rx p => by
    obtain ⟨k, e, p⟩ := p.asBool
    subst e
    exact ⟨k, rv_bool rx, Post.ok sr p _ (rf_bool _)⟩
theorem t_not (ha : PT X a (RdT (gx X) W fun ρ => bnd (ma ρ) asBool)) : PT X (.UnaryOp .Not a pos) (RdT (gx X) W fun ρ => bnd (bnd (ma ρ) fun v => bnd (asBool v) fun k => ret (bv (!k))) asBool) :=
  (pt_not ha).imp fun σ H Q h => by
    obtain ⟨ρ, st, μ, en, sr, p⟩ := h
    simp only [bnd_assoc] at p
    refine ⟨ρ, st, μ, en, sr, ?_⟩
    rw [← bnd_assoc] at p
    exact (Post.bnd p).imp fun k μ' st' H' s' sr' q' => by
      obtain ⟨k', e, q'⟩ := Post.asBool0 (v := bv (!k)) sr' q'
      cases e
      exact q'
theorem e_neg (ha : PE X a (RdE (gx X) W ma)) : PE X (.UnaryOp .USub a pos) (RdE (gx X) W fun ρ => bnd (ma ρ) fun v => bnd (pureD v) fun x => bnd (opt (negD x)) fun z => ret (.d z)) :=
  (pe_un un_neg ha).imp fun σ H Q h => rd1 h fun v μ st H1 x sr rx p => by
    obtain ⟨dx, e, p⟩ := p.pureD
    obtain ⟨dz, e2, p⟩ := p.opt
    subst e
    cases dx with
    | int i =>
      cases e2
      have : RF _ _ _ _ _ _ := rx
      rw [RF] at this
      exact ⟨i, this, Post.ok sr p _ (rf_int (G := gx X) (H := H1) _)⟩
    | _ => cases e2
theorem e_ife {mt : Env → M Val} (hc : PT X c (RdT (gx X) W fun ρ => bnd (mt ρ) asBool)) (ha : PE X a (RdE (gx X) W ma)) (hb : PE X b (RdE (gx X) W mb)) :
    PE X (.IfExp c a b pos) (RdE (gx X) W fun ρ => bnd (mt ρ) fun v => bnd (asBool v) fun k => if k then ma ρ else mb ρ) :=
  (pe_ifExp hc ha hb).imp fun σ H Q h => by
    obtain ⟨ρ, st, μ, en, sr, p⟩ := h
    refine ⟨ρ, st, μ, en, sr, ?_⟩
    have p : Post _ _ _ _ _ (EV.bnd (mt ρ) (fun v => EV.bnd (EV.asBool v) fun k => if k = true then ma ρ else mb ρ) st) _ := p
    rw [← bnd_assoc] at p
    exact (Post.bnd p).imp fun k μ' st' H' s' sr' q' => by
      cases k with
      | true => exact ⟨ρ, st', μ', en.step s', sr', q'⟩
      | false => exact ⟨ρ, st', μ', en.step s', sr', q'⟩
def tIfT (t u v : TT) : TT := fun σ H Q => t σ H fun k H1 => if k = true then u σ H1 Q else v σ H1 Q
theorem pt_ifE {t u v : TT} (hc : PT X c t) (ha : PT X a u) (hb : PT X b v) : PT X (.IfExp c a b pos) (tIfT t u v) :=
  ⟨fun pins s σ H Q I h => isTrue_IfExp (thn (hc.run pins s σ H _ I h) fun k s1 ⟨H1, I1, q1⟩ => by
    cases k with
    | true => exact ha.run pins s1 σ H1 Q I1 q1
    | false => exact hb.run pins s1 σ H1 Q I1 q1)⟩
theorem t_ife {mt : Env → M Val} (hc : PT X c (RdT (gx X) W fun ρ => bnd (mt ρ) asBool)) (ha : PT X a (RdT (gx X) W fun ρ => bnd (ma ρ) asBool)) (hb : PT X b (RdT (gx X) W fun ρ => bnd (mb ρ) asBool)) :
    PT X (.IfExp c a b pos) (RdT (gx X) W fun ρ => bnd (bnd (mt ρ) fun v => bnd (asBool v) fun k => if k then ma ρ else mb ρ) asBool) :=
  (pt_ifE hc ha hb).imp fun σ H Q h => by
    obtain ⟨ρ, st, μ, en, sr, p⟩ := h
    refine ⟨ρ, st, μ, en, sr, ?_⟩
    have p : Post _ _ _ _ _ (EV.bnd (EV.bnd (mt ρ) (fun v => EV.bnd (EV.asBool v) fun k => if k = true then ma ρ else mb ρ)) EV.asBool st) _ := p
    rw [← bnd_assoc, bnd_assoc] at p
    exact (Post.bnd p).imp fun k μ' st' H' s' sr' q' => by
      cases k with
      | true => exact ⟨ρ, st', μ', en.step s', sr', q'⟩
      | false => exact ⟨ρ, st', μ', en.step s', sr', q'⟩
end
end EV
end

section
set_option autoImplicit false
set_option linter.all false
set_option maxRecDepth 100000
set_option Elab.async false
/-! EvE2: lists of terms, displays, places, slices. -/
namespace EV
open PySem PySem.Spec
open PyProof.Rows L2

section
variable {G : Wd} {W : Value → Option Addr → Hp → Prop} {μ : Loc_} {st : Sto} {H : Hp}
theorem Post.known {α : Type} {r : Res α} {k : α → Loc_ → Sto → Hp → Prop} (h : Post G W μ st H r k) : Post G W μ st H r fun a μ' st' H' => r = .ok a st' ∧ k a μ' st' H' := by
  cases r with
  | ok a st' => exact fun μ' H' s sr => ⟨rfl, h μ' H' s sr⟩
  | err e st' => exact h
  | bad => exact h
/-- what is wanted of an object at once, or once it rests -/
def restR (Q : VK) : VK := fun v H => Q v H ∨ restQ Q v H
theorem EP.restR {X : Cx} {pins : List (Addr × Obj)} {σ : L2.St} {Q : VK} {u : Value} {s : Shared} (h : EP X pins σ (restR Q) u s) : EP X pins σ Q u s := by
  obtain ⟨v, H, I, r, q | q⟩ := h
  · exact ⟨v, H, I, r, q⟩
  · exact EP.rest ⟨v, H, I, r, q⟩
theorem _root_.L2.PE.restR {X : Cx} {e : Expr} {t : TE} (h : PE X e t) : PE X e (fun σ H Q => t σ H (EV.restR Q)) := ⟨fun pins s σ H Q I q => thn (h.run pins s σ H _ I q) fun _ _ e => EP.restR e⟩
/-- what is wanted of a new piece of data that may still change -/
def RawOut (G : Wd) (H : Hp) (z : Dt) (Q : VK) : Prop :=
  match z with
  | .list ds => ∀ H1 p vs, Grown H H1 → H1 p = none → G.Fs H1 ds vs → Q (.ref p) (upd H1 p (.lst vs))
  | .dict kvs => ∀ H1 p es, Grown H H1 → H1 p = none → Dj G.P G.w (RF G.P G.w G.K H1) kvs es → Q (.ref p) (upd H1 p (RawD p es))
  | z => Out G H z Q
theorem raw_list {ds : List Dt} {Q : VK} (h : Out G H (.list ds) Q) : RawOut G H (.list ds) (restR Q) := fun H1 p vs g hp r =>
  .inr ⟨p, .lst vs, rfl, upd_same, trivial, fun ob => h _ _ (g.trans (.new2 hp)) (by show RF _ _ _ _ _ _; rw [RF]; exact ⟨p, vs, rfl, ⟨ob, upd_same⟩, RFs.mono (fun b o e _ => Grown.new2 hp b o e) ds vs r⟩)⟩
theorem raw_dict {ds : List (Dt × Dt)} {Q : VK} (h : Out G H (.dict ds) Q) : RawOut G H (.dict ds) (restR Q) := fun H1 p es g hp r =>
  .inr ⟨p, RawD p es, rfl, upd_same, trivial, fun ob => h _ _ (g.trans (.new2 hp)) (by
    show RF _ _ _ _ _ _
    rw [RF]
    obtain ⟨vs, r1, r2⟩ := (r.map fun d v q => RF.mono (H' := upd (upd H1 p (RawD p es)) p (.frz ob (RawD p es))) (fun b o e _ => Grown.new2 hp b o e) d v q).to
    exact ⟨p, ob, es, vs, rfl, upd_same, r1, r2⟩)⟩
theorem raw_rest {z : Dt} {Q : VK} (h : Out G H z Q) : RawOut G H z (restR Q) := by
  cases z with
  | list ds => exact raw_list h
  | dict ds => exact raw_dict h
  | _ => exact fun v H' g r => .inl (h v H' g r)
/-- a new list of the store -/
theorem raw_live {ds : List Dt} {Q : VK} (sr : SR G μ st H) (h : Post G W μ st H (.ok (Val.ref st.length) (st ++ [Cell.lst ds])) fun v μ' st' H' => ∀ x, RV G μ' st' H' v x → Q x H') : RawOut G H (.list ds) (restR Q) := fun H1 p vs g hp r => by
  refine .inl (h (locAt μ st.length p) _ ?_ ?_ _ ⟨by simp, by rw [locAt_same]⟩)
  · exact (g.step).trans (.alloc hp (.new hp))
  · exact (sr.grown g).alloc hp (.new hp) ⟨vs, upd_same, RFs.mono (fun b o e _ => Grown.new hp b o e) ds vs r⟩
theorem raw_liveD {ds : List (Dt × Dt)} {Q : VK} (sr : SR G μ st H) (h : Post G W μ st H (.ok (Val.ref st.length) (st ++ [Cell.dct ds])) fun v μ' st' H' => ∀ x, RV G μ' st' H' v x → Q x H') : RawOut G H (.dict ds) (restR Q) := fun H1 p es g hp r => by
  obtain ⟨vs, r1, r2⟩ := (r.map fun d v q => RF.mono (H' := upd H1 p (RawD p es)) (fun b o e _ => Grown.new hp b o e) d v q).to
  refine .inl (h (locAt μ st.length p) _ ?_ ?_ _ ⟨by simp, by rw [locAt_same]⟩)
  · exact (g.step).trans (.alloc hp (.new hp))
  · exact (sr.grown g).alloc hp (.new hp) ⟨es, vs, upd_same, r1, r2⟩
theorem raw_fresh {m : Nat} {z : Dt} {Q : VK} (sr : SR G μ st H) (h : Post G W μ st H (fresh m z st) fun v μ' st' H' => ∀ x, RV G μ' st' H' v x → Q x H') : RawOut G H z (restR Q) := by
  unfold fresh at h
  split at h
  · exact raw_rest (Post.out (k := fun _ _ _ _ => True) sr h)
  · exact raw_live sr h
  · exact raw_liveD sr h
  · exact h.elim
theorem datas_rv : ∀ {vs : List Val} {ds : List Dt} {xs : List V}, datas vs = some ds → RVs G μ st H vs xs → G.Fs H ds xs
  | [], ds, xs, e, r => by cases e; cases r; exact RFs.nil
  | v :: vs, ds, xs, e, r => by
    unfold datas at e
    obtain ⟨x, e1, e⟩ := Option.bind_eq_some_iff.mp e
    obtain ⟨ds', e2, rfl⟩ := Option.map_eq_some_iff.mp e
    cases r with
    | cons r1 r2 =>
      refine RFs.cons ?_ (datas_rv e2 r2)
      cases v with
      | d y => cases e1; exact r1
      | ref n => cases e1
      | err c fs => cases e1
      | fn f => cases e1
theorem datas_len : ∀ {vs : List Val} {ds : List Dt}, datas vs = some ds → ds.length = vs.length
  | [], ds, e => by cases e; rfl
  | v :: vs, ds, e => by
    unfold datas at e
    obtain ⟨x, e1, e⟩ := Option.bind_eq_some_iff.mp e
    obtain ⟨ds', e2, rfl⟩ := Option.map_eq_some_iff.mp e
    rw [List.length_cons, List.length_cons, datas_len e2]
end

section
variable {X : Cx} {C : Ctx} {W : WX} {a b c : Expr} {es : List Expr} {ma mb mc : Env → M Val} {ms : Env → M (List Val)} {pos : Pos}
theorem a_nil : PA X [] (RdA (gx X) W fun _ => ret []) := pa_nil.imp fun σ H Q h => by
  obtain ⟨ρ, st, μ, en, sr, p⟩ := h
  exact Post.ok (a := ([] : List Val)) sr p [] .nil
theorem a_cons (ha : PE X a (RdE (gx X) W ma)) (hs : PA X es (RdA (gx X) W ms)) (he : starEach (a :: es) X.env = (false, eval a X.env) :: starEach es X.env) :
    PA X (a :: es) (RdA (gx X) W fun ρ => bnd (ma ρ) fun v => bnd (ms ρ) fun vs => ret (v :: vs)) :=
  (pa_cons ha hs he).imp fun σ H Q h => by
    obtain ⟨ρ, st, μ, en, sr, p⟩ := h
    refine ⟨ρ, st, μ, en, sr, (Post.bnd p).imp fun v μ1 st1 H1 s1 sr1 q1 x rx => ⟨ρ, st1, μ1, en.step s1, sr1, (Post.bnd q1).imp fun vs μ2 st2 H2 s2 sr2 q2 xs rxs => ?_⟩⟩
    exact Post.ok (a := v :: vs) sr2 q2 _ (.cons (rx.step s2) rxs)
/-- as many as are written -/
def Few (ms : Env → M (List Val)) : Prop := ∀ ρ st vs st', ms ρ st = .ok vs st' → vs.length ≤ 1000
theorem e_tup {k : Nat} (hs : PA X es (RdA (gx X) W ms)) (hf : Few ms) : PE X (.Tuple es k pos) (RdE (gx X) W fun ρ => bnd (ms ρ) fun vs => bnd (opt (datas vs)) fun xs => ret (.d (.tuple xs))) :=
  (pe_tup hs).imp fun σ H Q h => by
    obtain ⟨ρ, st, μ, en, sr, p⟩ := h
    refine ⟨ρ, st, μ, en, sr, (Post.bnd p).known.imp fun vs μ1 st1 H1 s1 sr1 ⟨e, q1⟩ xs rxs => ?_⟩
    obtain ⟨ds, e2, q1⟩ := q1.opt
    have hl := hf _ _ _ _ e
    refine ⟨by rw [← Paired.length rxs, sizeLine_eq]; omega, fun p hp => ?_⟩
    exact out_tupN hp (datas_rv e2 rxs) (Post.out (k := fun _ _ _ _ => True) sr1 q1)
theorem e_lst {m : Nat} (hs : PA X es (RdA (gx X) W ms)) (hf : Few ms) : PE X (.List es pos) (RdE (gx X) W fun ρ => bnd (ms ρ) fun vs => mkList m vs) :=
  (pe_lst hs).restR.imp fun σ H Q h => by
    obtain ⟨ρ, st, μ, en, sr, p⟩ := h
    refine ⟨ρ, st, μ, en, sr, (Post.bnd p).known.imp fun vs μ1 st1 H1 s1 sr1 ⟨e, q1⟩ xs rxs => ?_⟩
    have hl := hf _ _ _ _ e
    refine ⟨by rw [← Paired.length rxs, sizeLine_eq]; omega, fun q hp => ?_⟩
    unfold mkList at q1
    split at q1
    · split at q1
      · rename_i ds e2
        exact raw_list (Post.out (k := fun _ _ _ _ => True) sr1 q1) H1 q xs (.refl _) hp (datas_rv e2 rxs)
      · exact q1.elim
    · split at q1
      · rename_i ds e2
        exact raw_live sr1 q1 H1 q xs (.refl _) hp (datas_rv e2 rxs)
      · exact q1.elim
    · refine .inl (q1 (locAt μ1 st1.length q) _ (.alloc hp (.new hp)) (sr1.alloc hp (.new hp) ⟨xs, upd_same, rxs.step (.alloc hp (.new hp))⟩) _ ⟨by simp, by rw [locAt_same]⟩)
/-! ### places, slices -/
theorem e_idx (hu : X.A.units + 9 < cLine) (ha : PE X a (RdE (gx X) W ma)) (hb : PE X b (RdE (gx X) W mb)) (hp : PlainIx b) : PE X (.Subscript a b pos) (RdE (gx X) W fun ρ => bnd (ma ρ) fun v => bnd (mb ρ) fun w => idxV v w) :=
  (pe_ix (ix_all hu) ha hb hp).imp fun σ H Q h => rd2 h fun v w μ st H2 x y sr rx ry p => by
    cases c : idxV v w st with
    | ok r st' =>
      have es : st' = st := by
        unfold idxV at c
        split at c <;> (try cases c) <;> (split at c <;> (try cases c)) <;> (try rfl) <;> (split at c <;> (try cases c)) <;> (try rfl) <;> (split at c <;> cases c) <;> rfl
      subst es
      rw [c] at p
      exact ⟨μ, _, v, w, r, sr, rx, ry, c, Post.ok sr p⟩
    | err e st' =>
      exfalso
      unfold idxV at c
      split at c <;> (try cases c) <;> (split at c <;> (try cases c)) <;> (split at c <;> (try cases c)) <;> (split at c <;> cases c)
    | bad => rw [c] at p; exact p.elim
def RdO (G : Wd) (W : WX) (m : Env → M (Option Int)) : TO := fun σ H Q => ∃ ρ st μ, EnvOk G μ st H ρ σ ∧ SR G μ st H ∧ Post G (fun c d H' => W c d σ H') μ st H (m ρ st) fun o _ _ H' => Q o H'
theorem _root_.L2.PO.imp {X : Cx} {e : Option Expr} {t u : TO} (h : PO X e t) (f : ∀ σ H Q, u σ H Q → t σ H Q) : PO X e u := ⟨fun pins s σ H Q I q => h.run pins s σ H Q I (f σ H Q q)⟩
theorem o_none : PO X none (RdO (gx X) W fun _ => ret none) := po_none.imp fun σ H Q h => by
  obtain ⟨ρ, st, μ, en, sr, p⟩ := h
  exact Post.ok (a := (none : Option Int)) sr p
theorem o_some (ha : PE X a (RdE (gx X) W ma)) : PO X (some a) (RdO (gx X) W fun ρ => bnd (ma ρ) fun v => bnd (pureD v) fun x => match x with
    | .int i => ret (some i)
    | _ => bad) := (po_some ha).imp fun σ H Q h => by
  obtain ⟨ρ, st, μ, en, sr, p⟩ := h
  refine ⟨ρ, st, μ, en, sr, (Post.bnd p).imp fun v μ1 st1 H1 s1 sr1 q1 x rx => ?_⟩
  obtain ⟨y, e, q1⟩ := q1.pureD
  subst e
  cases y with
  | int i =>
    have rx' : RF _ _ _ _ _ _ := rx
    rw [RF] at rx'
    exact ⟨i, rx', Post.ok (a := some i) sr1 q1⟩
  | _ => exact q1.elim
theorem e_sli {lo hi : Option Expr} {ml mh : Env → M (Option Int)} {p2 : Pos} (ha : PE X a (RdE (gx X) W ma)) (hl : PO X lo (RdO (gx X) W ml)) (hh : PO X hi (RdO (gx X) W mh)) :
    PE X (.Subscript a (.Slice lo hi none p2) pos) (RdE (gx X) W fun ρ => bnd (ma ρ) fun v => bnd (ml ρ) fun l => bnd (mh ρ) fun h => bnd (dat v) fun x => bnd (opt (sliD x l h)) fun z => ret (.d z)) :=
  (pe_slice sl_all ha hl hh).imp fun σ H Q h => by
    obtain ⟨ρ, st, μ, en, sr, p⟩ := h
    refine ⟨ρ, st, μ, en, sr, (Post.bnd p).imp fun v μ1 st1 H1 s1 sr1 q1 x rx => ⟨ρ, st1, μ1, en.step s1, sr1, (Post.bnd q1).imp fun l μ2 st2 H2 s2 sr2 q2 => ⟨ρ, st2, μ2, (en.step s1).step s2, sr2, (Post.bnd q2).imp fun h μ3 st3 H3 s3 sr3 q3 => ?_⟩⟩⟩
    obtain ⟨d, e, q3⟩ := q3.dat
    obtain ⟨z, e2, q3⟩ := q3.opt
    exact ⟨d, z, sr3.look ((rx.step s2).step s3) e, e2, Post.out (k := fun _ _ _ _ => True) sr3 q3⟩
theorem e_rev {k : Nat} {p1 p2 p3 : Pos} (ha : PE X a (RdE (gx X) W ma)) : PE X (.Subscript a (.Slice none none (some (.UnaryOp .USub (.Constant (.int 1) k p1) p2)) p3) pos)
    (RdE (gx X) W fun ρ => bnd (ma ρ) fun v => bnd (dat v) fun x => bnd (opt (revD x)) fun z => ret (.d z)) :=
  (pe_revL ha).rest.imp fun σ H Q h => rd1 h fun v μ st H1 x sr rx p => by
    obtain ⟨d, e, p⟩ := p.dat
    obtain ⟨z, e2, p⟩ := p.opt
    have rt := sr.look rx e
    cases d with
    | list ds =>
      cases e2
      obtain ⟨l, vs, rfl, r1, r2⟩ := rt.list
      exact ⟨l, vs, rfl, r1, rest_lst r2.reverse (Post.out (k := fun _ _ _ _ => True) sr p)⟩
    | _ => cases e2
/-! ### and, or -/
theorem e_and1 (ha : PE X a (RdE (gx X) W ma)) : PE X (.BoolOp .And [a] pos) (RdE (gx X) W fun ρ => bnd (bnd (ma ρ) fun v => bnd (asBool v) fun k => if k then ret true else ret false) fun k => ret (bv k)) :=
  (pe_one ha).imp fun σ H Q h => by
    obtain ⟨ρ, st, μ, en, sr, p⟩ := h
    have p : Post _ _ _ _ _ (EV.bnd (EV.bnd (ma ρ) fun v => EV.bnd (asBool v) fun k => if k then ret true else ret false) (fun k => ret (bv k)) st) _ := p
    rw [bnd_assoc] at p
    refine ⟨ρ, st, μ, en, sr, (Post.bnd p).imp fun v μ1 st1 H1 s1 sr1 q1 x rx => ?_⟩
    rw [bnd_assoc] at q1
    obtain ⟨k, e, q1⟩ := q1.asBool
    subst e
    cases k with
    | true => exact Post.ok (a := bv true) sr1 q1 x rx
    | false => exact Post.ok (a := bv false) sr1 q1 x rx
theorem e_or1 (ha : PE X a (RdE (gx X) W ma)) : PE X (.BoolOp .Or [a] pos) (RdE (gx X) W fun ρ => bnd (bnd (ma ρ) fun v => bnd (asBool v) fun k => if k then ret true else ret false) fun k => ret (bv k)) :=
  (pe_one ha).imp fun σ H Q h => by
    obtain ⟨ρ, st, μ, en, sr, p⟩ := h
    have p : Post _ _ _ _ _ (EV.bnd (EV.bnd (ma ρ) fun v => EV.bnd (asBool v) fun k => if k then ret true else ret false) (fun k => ret (bv k)) st) _ := p
    rw [bnd_assoc] at p
    refine ⟨ρ, st, μ, en, sr, (Post.bnd p).imp fun v μ1 st1 H1 s1 sr1 q1 x rx => ?_⟩
    rw [bnd_assoc] at q1
    obtain ⟨k, e, q1⟩ := q1.asBool
    subst e
    cases k with
    | true => exact Post.ok (a := bv true) sr1 q1 x rx
    | false => exact Post.ok (a := bv false) sr1 q1 x rx
variable {mk : Env → M Bool}
theorem e_and (ha : PE X a (RdE (gx X) W ma)) (hb : PE X (.BoolOp .And (b :: es) pos) (RdE (gx X) W fun ρ => bnd (mk ρ) fun k => ret (bv k))) :
    PE X (.BoolOp .And (a :: b :: es) pos) (RdE (gx X) W fun ρ => bnd (bnd (ma ρ) fun v => bnd (asBool v) fun k => if k then mk ρ else ret false) fun k => ret (bv k)) :=
  (pe_and ha hb).imp fun σ H Q h => by
    obtain ⟨ρ, st, μ, en, sr, p⟩ := h
    have p : Post _ _ _ _ _ (EV.bnd (EV.bnd (ma ρ) fun v => EV.bnd (asBool v) fun k => if k then mk ρ else ret false) (fun k => ret (bv k)) st) _ := p
    rw [bnd_assoc] at p
    refine ⟨ρ, st, μ, en, sr, (Post.bnd p).imp fun v μ1 st1 H1 s1 sr1 q1 x rx => ?_⟩
    rw [bnd_assoc] at q1
    obtain ⟨k, e, q1⟩ := q1.asBool
    subst e
    refine ⟨k, rv_bool rx, ?_⟩
    cases k with
    | true => exact ⟨ρ, st1, μ1, en.step s1, sr1, q1⟩
    | false => exact Post.ok (a := bv false) sr1 q1 _ (rf_bool _)
theorem e_or (ha : PE X a (RdE (gx X) W ma)) (hb : PE X (.BoolOp .Or (b :: es) pos) (RdE (gx X) W fun ρ => bnd (mk ρ) fun k => ret (bv k))) :
    PE X (.BoolOp .Or (a :: b :: es) pos) (RdE (gx X) W fun ρ => bnd (bnd (ma ρ) fun v => bnd (asBool v) fun k => if k then ret true else mk ρ) fun k => ret (bv k)) :=
  (pe_or ha hb).imp fun σ H Q h => by
    obtain ⟨ρ, st, μ, en, sr, p⟩ := h
    have p : Post _ _ _ _ _ (EV.bnd (EV.bnd (ma ρ) fun v => EV.bnd (asBool v) fun k => if k then ret true else mk ρ) (fun k => ret (bv k)) st) _ := p
    rw [bnd_assoc] at p
    refine ⟨ρ, st, μ, en, sr, (Post.bnd p).imp fun v μ1 st1 H1 s1 sr1 q1 x rx => ?_⟩
    rw [bnd_assoc] at q1
    obtain ⟨k, e, q1⟩ := q1.asBool
    subst e
    refine ⟨k, rv_bool rx, ?_⟩
    cases k with
    | true => exact Post.ok (a := bv true) sr1 q1 _ (rf_bool _)
    | false => exact ⟨ρ, st1, μ1, en.step s1, sr1, q1⟩
/-- tests -/
theorem w_and0 : PW X (.BoolOp .And [] pos) (RdT (gx X) W fun _ => ret true) := ⟨fun wh pins s σ H Q I h => by
  obtain ⟨ρ, st, μ, en, sr, p⟩ := h
  exact isTrue_and_nil ⟨H, I, Post.ok (a := true) sr p⟩⟩
theorem w_or0 : PW X (.BoolOp .Or [] pos) (RdT (gx X) W fun _ => ret false) := ⟨fun wh pins s σ H Q I h => by
  obtain ⟨ρ, st, μ, en, sr, p⟩ := h
  exact isTrue_or_nil ⟨H, I, Post.ok (a := false) sr p⟩⟩
theorem w_and (ha : PT X a (RdT (gx X) W fun ρ => bnd (ma ρ) asBool)) (hb : PW X (.BoolOp .And es pos) (RdT (gx X) W mk)) :
    PW X (.BoolOp .And (a :: es) pos) (RdT (gx X) W fun ρ => bnd (ma ρ) fun v => bnd (asBool v) fun k => if k then mk ρ else ret false) := ⟨fun wh pins s σ H Q I h => by
  obtain ⟨ρ, st, μ, en, sr, p⟩ := h
  have p : Post _ _ _ _ _ (EV.bnd (ma ρ) (fun v => EV.bnd (asBool v) fun k => if k then mk ρ else ret false) st) _ := p
  rw [← bnd_assoc] at p
  refine isTrue_and (thn (ha.run pins s σ H (fun k H1 => if k = true then RdT (gx X) W mk σ H1 Q else Q false H1) I ⟨ρ, st, μ, en, sr, (Post.bnd p).imp fun k μ1 st1 H1 s1 sr1 q1 => ?_⟩) fun k s1 hk => ?_)
  · cases k with
    | true => exact ⟨ρ, st1, μ1, en.step s1, sr1, q1⟩
    | false => exact Post.ok (a := false) sr1 q1
  · obtain ⟨H1, I1, q1⟩ := hk
    cases k with
    | true => exact hb.run wh pins s1 σ H1 Q I1 q1
    | false => exact ⟨H1, I1, q1⟩⟩
theorem w_or (ha : PT X a (RdT (gx X) W fun ρ => bnd (ma ρ) asBool)) (hb : PW X (.BoolOp .Or es pos) (RdT (gx X) W mk)) :
    PW X (.BoolOp .Or (a :: es) pos) (RdT (gx X) W fun ρ => bnd (ma ρ) fun v => bnd (asBool v) fun k => if k then ret true else mk ρ) := ⟨fun wh pins s σ H Q I h => by
  obtain ⟨ρ, st, μ, en, sr, p⟩ := h
  have p : Post _ _ _ _ _ (EV.bnd (ma ρ) (fun v => EV.bnd (asBool v) fun k => if k then ret true else mk ρ) st) _ := p
  rw [← bnd_assoc] at p
  refine isTrue_or (thn (ha.run pins s σ H (fun k H1 => if k = true then Q true H1 else RdT (gx X) W mk σ H1 Q) I ⟨ρ, st, μ, en, sr, (Post.bnd p).imp fun k μ1 st1 H1 s1 sr1 q1 => ?_⟩) fun k s1 hk => ?_)
  · cases k with
    | true => exact Post.ok (a := true) sr1 q1
    | false => exact ⟨ρ, st1, μ1, en.step s1, sr1, q1⟩
  · obtain ⟨H1, I1, q1⟩ := hk
    cases k with
    | true => exact ⟨H1, I1, q1⟩
    | false => exact hb.run wh pins s1 σ H1 Q I1 q1⟩
theorem t_bool {op} (h : PW X (.BoolOp op es pos) (RdT (gx X) W mk)) : PT X (.BoolOp op es pos) (RdT (gx X) W fun ρ => bnd (bnd (mk ρ) fun k => ret (bv k)) asBool) := h.pt.imp fun σ H Q h => by
  obtain ⟨ρ, st, μ, en, sr, p⟩ := h
  have p : Post _ _ _ _ _ (EV.bnd (EV.bnd (mk ρ) fun k => ret (bv k)) asBool st) _ := p
  rw [bnd_assoc] at p
  refine ⟨ρ, st, μ, en, sr, (Post.bnd p).imp fun k μ1 st1 H1 s1 sr1 q1 => ?_⟩
  obtain ⟨k', e, q⟩ := Post.asBool0 (v := bv k) sr1 q1
  cases e
  exact q
end
end EV
end

section
set_option autoImplicit false
set_option linter.all false
set_option maxRecDepth 100000
set_option Elab.async false
/-! EvC: comprehensions. -/
namespace EV
open PySem PySem.Spec
open PyProof.Rows L2

/-! ### a list apart -/
def del (H : Hp) (D : Addr) : Hp := fun b => if b = D then none else H b
theorem del_same {H : Hp} {D : Addr} : del H D D = none := if_pos rfl
theorem del_ne {H : Hp} {D b : Addr} (h : b ≠ D) : del H D b = H b := if_neg h
theorem del_grown {H : Hp} {D : Addr} : Grown (del H D) H := fun b o e => by
  by_cases h : b = D
  · rw [h, del_same] at e; cases e
  · rw [del_ne h] at e; exact e
theorem del_upd {H : Hp} {D : Addr} {o : HO} : del (upd H D o) D = del H D := by
  funext b
  by_cases h : b = D
  · rw [h, del_same, del_same]
  · rw [del_ne h, del_ne h, upd_ne h]
theorem del_none {H : Hp} {D : Addr} (h : H D = none) : del H D = H := by
  funext b
  by_cases e : b = D
  · rw [e, del_same, h]
  · rw [del_ne e]
theorem upd_del {H : Hp} {D : Addr} {o : HO} (h : H D = some o) : upd (del H D) D o = H := by
  funext b
  by_cases e : b = D
  · rw [e, upd_same, h]
  · rw [upd_ne e, del_ne e]
section
variable {G : Wd} {μ μ' : Loc_} {st st' : Sto} {H H' : Hp} {D : Addr} {o : HO}
/-- nothing of the store lies at D -/
def Off (μ : Loc_) (st : Sto) (D : Addr) : Prop := ∀ (n : Nat) (c : Cell), st[n]? = some c → c.live = true → μ n ≠ D
theorem SR.off (sr : SR G μ st (del H D)) : Off μ st D := fun n c e l q => by
  obtain ⟨o, z, _⟩ := sr.live_mut e l
  rw [q, del_same] at z; cases z
theorem Off.step (f : Off μ st D) (h : H D = some o) (s : Step μ st H μ' st' H') : Off μ' st' D := fun n c e l q => by
  rcases s.live n c e l with ⟨c0, e0, l0⟩ | z
  · have hn : n < st.length := (List.getElem?_eq_some_iff.mp e0).1
    rw [s.mu n hn] at q
    exact f n c0 e0 l0 q
  · rw [q, h] at z; cases z
theorem Step.off (f : Off μ st D) (h : H D = some o) (s : Step μ st H μ' st' H') : H' D = some o := s.keep D o h f
theorem Step.del (s : Step μ st H μ' st' H') : Step μ st (del H D) μ' st' (del H' D) where
  len := s.len
  mu := s.mu
  fz := fun b o e f => by
    by_cases h : b = D
    · rw [h, del_same] at e; cases e
    · rw [del_ne h] at e ⊢; exact s.fz b o e f
  keep := fun b o e nl => by
    by_cases h : b = D
    · rw [h, del_same] at e; cases e
    · rw [del_ne h] at e ⊢; exact s.keep b o e nl
  there := fun b o e => by
    by_cases h : b = D
    · rw [h, del_same] at e; cases e
    · rw [del_ne h] at e ⊢; exact s.there b o e
  live := fun n c e l => by
    rcases s.live n c e l with z | z
    · exact .inl z
    · refine .inr ?_
      by_cases h : μ' n = D
      · rw [h, del_same]
      · rw [del_ne h]; exact z
theorem SR.del (sr : SR G μ st H) (f : Off μ st D) (h : H D = some o) (nf : ¬ Fz o) : SR G μ st (del H D) := by
  have m : ∀ b u, H b = some u → Fz u → EV.del H D b = some u := fun b u e q => by
    rw [del_ne (fun z => by rw [z, h] at e; cases e; exact nf q)]; exact e
  have rv : ∀ v x, RV G μ st H v x → RV G μ st (EV.del H D) v x := fun v x r => by
    cases v with
    | d y => exact RF.mono m y x r
    | ref n => exact r
    | err c fs => obtain ⟨a, oe, e1, e2, e3, e4⟩ := r; exact ⟨a, oe, e1, m _ _ e2 trivial, e3, e4.mono m⟩
    | fn y => exact r
  refine ⟨fun n c e => ?_, sr.inj⟩
  have ck := sr.cell n c e
  have at_ : c.live = true → ∀ u, H (μ n) = some u → EV.del H D (μ n) = some u := fun l u q => by rw [del_ne (f n c e l)]; exact q
  cases c with
  | lst xs => obtain ⟨vs, q, r⟩ := ck; exact ⟨vs, at_ rfl _ q, RFs.mono m xs vs r⟩
  | dct kvs => obtain ⟨es, vs, q, r, t⟩ := ck; exact ⟨es, vs, at_ rfl _ q, RFkv.mono m kvs vs r, t⟩
  | lsv xs => obtain ⟨vs, q, r⟩ := ck; exact ⟨vs, at_ rfl _ q, Paired.mapP r fun _ _ z => rv _ _ z⟩
  | dcv kvs => obtain ⟨ws, q, r⟩ := ck; exact ⟨ws, at_ rfl _ q, Paired.mapP r fun _ _ z => ⟨z.1, rv _ _ z.2⟩⟩
  | fz x => exact RF.mono m x _ ck
  | kl xs => obtain ⟨vs, k, r⟩ := ck; exact ⟨vs, k, RFs.mono m xs vs r⟩
end

/-! ### targets -/
def gNames : List Nat → TGs
  | [] => gNil
  | i :: is => gCons (gName i) (gNames is)
def gT (K : PySem.W.Frag) : T → TG
  | .nm i => gName i
  | .tp is => gTup K is.length (gNames is)
def T.slots : T → List Nat
  | .nm i => [i]
  | .tp is => is
/-- the slots set -/
def putS : List Nat → List V → L2.St → L2.St
  | i :: is, v :: vs, σ => putS is vs (σ.set i (some v))
  | _, _, σ => σ
section
variable {X : Cx} {μ : Loc_} {st : Sto} {H : Hp}
theorem gNames_of : ∀ {is : List Nat} {vs : List V} {σ : L2.St} {Q : L2.St → Hp → Prop}, vs.length = is.length → Q (putS is vs σ) H → gNames is vs σ H Q
  | [], [], σ, Q, _, q => ⟨rfl, q⟩
  | i :: is, v :: vs, σ, Q, e, q => ⟨v, vs, rfl, gNames_of (by simpa using e) q⟩
  | [], _ :: _, _, _, e, _ => by simp at e
  | _ :: _, [], _, _, e, _ => by simp at e
theorem envOk_put {G : Wd} : ∀ {is : List Nat} {ds : List Dt} {vs : List V} {ρ : Env} {σ : L2.St}, EnvOk G μ st H ρ σ → G.Fs H ds vs → EnvOk G μ st H (setD is ds ρ) (putS is vs σ)
  | [], ds, vs, ρ, σ, en, r => by
    cases ds <;> cases vs <;> exact en
  | i :: is, [], vs, ρ, σ, en, r => by
    have r' : RFs _ _ _ _ _ _ := r
    rw [RFs] at r'; subst r'; exact en
  | i :: is, d :: ds, vs, ρ, σ, en, r => by
    have r' : RFs _ _ _ _ _ _ := r
    rw [RFs] at r'
    obtain ⟨x, r0, rfl, h1, h2⟩ := r'
    show EnvOk G μ st H (setD is ds (ρ.set i (some (.d d)))) (putS is r0 (σ.set i (some x)))
    exact envOk_put (en.set (v := .d d) h1 i) h2
theorem wipe_set_mem {σ : L2.St} {i : Nat} {x : Option V} : ∀ {own : List Nat}, i ∈ own → wipe (σ.set i x) own = wipe σ own
  | [], h => nomatch h
  | j :: own, h => by
    unfold wipe
    by_cases e : i ∈ own
    · rw [wipe_set_mem e]
    · have hj : i = j := (List.mem_cons.mp h).resolve_right e
      subst hj
      have out : ∀ {σ : L2.St} {x : Option V} {own : List Nat}, i ∉ own → wipe (σ.set i x) own = (wipe σ own).set i x := by
        intro σ x own
        induction own with
        | nil => intro _; rfl
        | cons k ks ih =>
          intro hk
          unfold wipe
          rw [ih fun z => hk (List.mem_cons_of_mem _ z), List.set_comm _ _ (fun z => hk (by rw [z]; exact List.mem_cons_self))]
      rw [out e, List.set_set]
theorem wipe_putS : ∀ {is : List Nat} {vs : List V} {σ : L2.St} {own : List Nat}, (∀ i ∈ is, i ∈ own) → wipe (putS is vs σ) own = wipe σ own
  | [], vs, σ, own, _ => by cases vs <;> rfl
  | i :: is, [], σ, own, _ => rfl
  | i :: is, v :: vs, σ, own, h => by
    show wipe (putS is vs (σ.set i (some v))) own = _
    rw [wipe_putS fun j hj => h j (List.mem_cons_of_mem _ hj), wipe_set_mem (h i List.mem_cons_self)]
theorem wipe_idem {σ : L2.St} {own : List Nat} : wipe (wipe σ own) own = wipe σ own := by
  have len := wipe_length
  have aux : ∀ (vs : List Nat) (σ : L2.St), (∀ i ∈ vs, ∀ (h : i < σ.length), σ[i]? = some none) → wipe σ vs = σ := by
    intro vs
    induction vs with
    | nil => intro σ _; rfl
    | cons v vs ih =>
      intro σ h
      unfold wipe
      rw [ih σ fun i hi => h i (List.mem_cons_of_mem _ hi)]
      by_cases hv : v < σ.length
      · have := h v List.mem_cons_self hv
        apply List.ext_getElem?
        intro j
        rw [List.getElem?_set]
        split
        · rename_i e
          subst e
          rw [this]
        · rfl
      · exact List.set_eq_of_length_le (Nat.le_of_not_lt hv)
  refine aux own _ fun i hi hl => ?_
  cases e : (wipe σ own)[i]? with
  | none => rw [List.getElem?_eq_none_iff] at e; omega
  | some x =>
    cases x with
    | none => rfl
    | some v => exact absurd hi (wipe_some e).2
/-- a target takes what comes -/
theorem gT_of {t : T} {vv : Val} {v : V} {ρ ρ' : Env} {σ : L2.St} {st' : Sto} {own : List Nat} {Q : L2.St → Hp → Prop} (en : EnvOk (gx X) μ st H ρ σ) (r : RV (gx X) μ st H vv v) (e : bind1 t vv ρ st = .ok ρ' st')
    (q : ∀ σ', EnvOk (gx X) μ st H ρ' σ' → ((∀ i ∈ t.slots, i ∈ own) → wipe σ' own = wipe σ own) → Q σ' H) : st' = st ∧ gT X.K t v σ H Q := by
  cases t with
  | nm i =>
    cases e
    exact ⟨rfl, q _ (en.set r i) fun h => wipe_set_mem (h i (List.mem_singleton.mpr rfl))⟩
  | tp is =>
    unfold bind1 at e
    simp only at e
    split at e
    · rename_i xs
      split at e
      · rename_i hl
        cases e
        have r' : RF _ _ _ _ _ _ := r
        rw [RF] at r'
        obtain ⟨a, vs, rfl, sq, rs⟩ := r'
        have hl2 : vs.length = is.length := by rw [← RFs.length rs, hl]
        exact ⟨rfl, a, vs, rfl, sq, hl2, gNames_of hl2 (q _ (envOk_put en rs) fun h => wipe_putS h)⟩
      · cases e
    · cases e
theorem bind1_res {t : T} {vv : Val} {ρ : Env} : (∃ ρ', bind1 t vv ρ st = .ok ρ' st) ∨ bind1 t vv ρ st = .bad := by
  cases t with
  | nm i => exact .inl ⟨_, rfl⟩
  | tp is =>
    unfold bind1
    simp only
    split
    · split
      · exact .inl ⟨_, rfl⟩
      · exact .inr rfl
    · exact .inr rfl
end

/-! ### a list comprehension -/
section
variable {X : Cx} {W : WX}
theorem Post.shut {α : Type} {G : Wd} {W : Value → Option Addr → Hp → Prop} {W' : Value → Option Addr → Hp → Prop} {μ : Loc_} {st : Sto} {H : Hp} {m : M α} {k : α → Loc_ → Sto → Hp → Prop} (h : Post G W μ st H (EV.shut m st) k) : Post G W' μ st H (m st) k := by
  unfold EV.shut at h
  cases e : m st with
  | ok a st' => rw [e] at h; exact h
  | err x st' => rw [e] at h; exact h.elim
  | bad => rw [e] at h; exact h
theorem Post.held {β : Type} {G : Wd} {W : Value → Option Addr → Hp → Prop} {μ : Loc_} {st st0 : Sto} {H : Hp} {gs : List Nat} {f : Unit → M β} {k : β → Loc_ → Sto → Hp → Prop} (h : Post G W μ st H (EV.bnd (EV.held gs st0) f st) k) : Held gs st0 st ∧ Post G W μ st H (f () st) k := by
  unfold EV.bnd EV.held at h
  split at h
  · rename_i a s' e
    split at e
    · rename_i hh
      cases e
      exact ⟨hh, h⟩
    · cases e
  · rename_i a s' e
    split at e <;> cases e
  · exact h.elim
abbrev NoW : WX := fun _ _ _ _ => False
abbrev NoX : Value → Option Addr → Hp → Prop := fun _ _ _ => False
/-- a run beside the list at D is a run with it -/
theorem Post.undel {α : Type} {G : Wd} {μ : Loc_} {st : Sto} {H : Hp} {D : Addr} {o : HO} {r : Res α} {k : α → Loc_ → Sto → Hp → Prop} (off : Off μ st D) (hD : H D = some o) (nf : ¬ Fz o) (h : Post G NoX μ st (EV.del H D) r k) :
    Post G NoX μ st H r fun a μ2 st2 H2 => H2 D = some o ∧ Off μ2 st2 D ∧ SR G μ2 st2 (EV.del H2 D) ∧ k a μ2 st2 (EV.del H2 D) := by
  cases r with
  | ok a st2 =>
    intro μ2 H2 s2 sr2
    have o2 := off.step hD s2
    have h2 := s2.off off hD
    have sr3 := sr2.del o2 h2 nf
    exact ⟨h2, o2, sr3, h μ2 _ s2.del sr3⟩
  | err e st2 =>
    intro μ2 H2 cls dx s2 sr2 er
    have o2 := off.step hD s2
    have h2 := s2.off off hD
    refine h μ2 (EV.del H2 D) cls dx s2.del (sr2.del o2 h2 nf) (er.mono fun b u e q => ?_)
    rw [del_ne (fun z => by rw [z, h2] at e; cases e; exact nf q)]; exact e
  | bad => exact h
theorem bnd_ret {α β : Type} (a : α) (f : α → M β) : bnd (ret a) f = f a := rfl
theorem ret_bnd {α : Type} (m : M α) : bnd m ret = m := by
  funext st
  unfold bnd ret
  cases m st <;> rfl
/-- within a list comprehension: the list at D, what is left to do -/
def TSt (X : Cx) (D : Addr) (μ0 : Loc_) (st0 : Sto) (H0 : Hp) (b : Nat) (m : M (List Dt)) (K : List Dt → Loc_ → Sto → Hp → Prop) (μ : Loc_) (st : Sto) (H : Hp) : Prop :=
  ∃ acc ds, H D = some (.lst acc) ∧ SR (gx X) μ st H ∧ SR (gx X) μ st (del H D) ∧ Step μ0 st0 H0 μ st (del H D) ∧ (gx X).Fs (del H D) ds acc ∧ acc.length ≤ b ∧
    Post (gx X) NoX μ st (del H D) (m st) fun ys μ2 st2 H2 => K (ds ++ ys) μ2 st2 H2
section
variable {D : Addr} {μ0 : Loc_} {st0 : Sto} {H0 : Hp} {b : Nat} {m : M (List Dt)} {K : List Dt → Loc_ → Sto → Hp → Prop} {μ : Loc_} {st : Sto} {H : Hp}
theorem TSt.step {α : Type} {a : M α} {g : α → M (List Dt)} (h : TSt X D μ0 st0 H0 b (bnd a g) K μ st H) : Post (gx X) NoX μ st H (a st) fun r μ2 st2 H2 => TSt X D μ0 st0 H0 b (g r) K μ2 st2 H2 := by
  obtain ⟨acc, ds, hD, sr, srd, s, fs, hb, p⟩ := h
  refine (Post.undel srd.off hD (fun z => z) p.bnd).imp fun r μ2 st2 H2 s2 sr2 ⟨h2, _, sr3, p2⟩ => ?_
  exact ⟨acc, ds, h2, sr2, sr3, s.trans s2.del, RFs.mono s2.del.fz ds acc fs, hb, p2⟩
theorem TSt.held {gs : List Nat} {st1 : Sto} {g : Unit → M (List Dt)} (h : TSt X D μ0 st0 H0 b (bnd (held gs st1) g) K μ st H) : Held gs st1 st ∧ TSt X D μ0 st0 H0 b (g ()) K μ st H := by
  obtain ⟨acc, ds, hD, sr, srd, s, fs, hb, p⟩ := h
  obtain ⟨hh, p⟩ := Post.held p
  exact ⟨hh, acc, ds, hD, sr, srd, s, fs, hb, p⟩
theorem TSt.grown {H' : Hp} (g : Grown H H') (h : TSt X D μ0 st0 H0 b m K μ st H) : TSt X D μ0 st0 H0 b m K μ st H' := by
  obtain ⟨acc, ds, hD, sr, srd, s, fs, hb, p⟩ := h
  have sd : Step μ st (del H D) μ st (del H' D) := Step.del g.step
  have off := srd.off
  exact ⟨acc, ds, g _ _ hD, sr.grown g, (sr.grown g).del off (g _ _ hD) (fun z => z), s.trans sd, RFs.mono sd.fz ds acc fs, hb, p.later sd⟩
theorem TSt.more {b' : Nat} (hb : b ≤ b') (h : TSt X D μ0 st0 H0 b m K μ st H) : TSt X D μ0 st0 H0 b' m K μ st H := by
  obtain ⟨acc, ds, hD, sr, srd, s, fs, h1, p⟩ := h
  exact ⟨acc, ds, hD, sr, srd, s, fs, Nat.le_trans h1 hb, p⟩
/-- an item comes -/
theorem TSt.push {dy : Dt} {y : V} (h : TSt X D μ0 st0 H0 b (bnd m fun zs => ret (dy :: zs)) K μ st H) (r : RF X.prog X.w X.K H dy y) : ∃ acc, H D = some (.lst acc) ∧ acc.length ≤ b ∧ TSt X D μ0 st0 H0 (b + 1) m K μ st (upd H D (.lst (acc ++ [y]))) ∧ Adv μ st H μ st (upd H D (.lst (acc ++ [y]))) := by
  obtain ⟨acc, ds, hD, sr, srd, s, fs, hb, p⟩ := h
  have m1 : ∀ b u, H b = some u → Fz u → del H D b = some u := fun b u e q => by
    rw [del_ne (fun z => by rw [z, hD] at e; cases e; exact q)]; exact e
  have m2 : ∀ b u, H b = some u → Fz u → upd H D (.lst (acc ++ [y])) b = some u := fun b u e q => by
    rw [upd_ne (fun z => by rw [z, hD] at e; cases e; exact q)]; exact e
  have g : Grown (del H D) (upd H D (.lst (acc ++ [y]))) := by
    have := del_grown (H := upd H D (.lst (acc ++ [y]))) (D := D)
    rw [del_upd] at this
    exact this
  refine ⟨acc, hD, hb, ⟨acc ++ [y], ds ++ [dy], upd_same, srd.grown g, by rw [del_upd]; exact srd, by rw [del_upd]; exact s, by rw [del_upd]; exact RFs.app fs (RFs.one (RF.mono m1 dy y r)), by simp; omega, ?_⟩, Nat.le_refl _, fun _ _ => rfl, m2⟩
  rw [del_upd]
  refine (Post.bnd p).imp fun zs μ2 st2 H2 s2 sr2 p2 => ?_
  have := Post.ok (a := dy :: zs) sr2 p2
  rw [List.append_assoc]
  exact this
end
/-- the target and the conditions of a turn -/
theorem tc_rd {D : Addr} {μ0 : Loc_} {st0 : Sto} {H0 : Hp} {b : Nat} {K : List Dt → Loc_ → Sto → Hp → Prop} {μ : Loc_} {st : Sto} {H : Hp} {t : T} {own : List Nat} {mc : Env → M Bool} {mv : Env → M (List Dt)} {ρ : Env} {σ : L2.St} {vv : Val} {x : V}
    {G : List Dt → M (List Dt)} {No : Hp → Prop} {Yes : L2.St → Hp → Prop} (hs : ∀ i ∈ t.slots, i ∈ own) (en : EnvOk (gx X) μ st H ρ σ) (r : RV (gx X) μ st H vv x) (h : TSt X D μ0 st0 H0 b (bnd (turnF t own mc mv ρ vv) G) K μ st H)
    (no : ∀ μ2 st2 H2, Step μ st H μ2 st2 H2 → TSt X D μ0 st0 H0 b (G []) K μ2 st2 H2 → No H2)
    (yes : ∀ ρ' σ2 μ2 st2 H2, Step μ st H μ2 st2 H2 → wipe σ2 own = wipe σ own → EnvOk (gx X) μ2 st2 H2 ρ' σ2 → TSt X D μ0 st0 H0 b (bnd (mv ρ') G) K μ2 st2 H2 → Yes σ2 H2) :
    gT X.K t x (wipe σ own) H fun σ2 H2 => wipe σ2 own = wipe σ own ∧ RdT (gx X) NoW mc σ2 H2 fun k H3 => if k = true then Yes σ2 H3 else No H3 := by
  have sr : SR (gx X) μ st H := by obtain ⟨acc, ds, _, sr, _⟩ := h; exact sr
  rcases bind1_res (t := t) (vv := vv) (ρ := wipeE ρ own) (st := st) with ⟨ρ', eb⟩ | eb
  · refine (gT_of (own := own) (en.wipe own) r eb fun σ2 en2 hw => ⟨(hw hs).trans wipe_idem, ?_⟩).2
    have hw' : wipe σ2 own = wipe σ own := (hw hs).trans wipe_idem
    have h2 : TSt X D μ0 st0 H0 b (bnd (mc ρ') fun k => bnd (if k = true then mv ρ' else ret []) G) K μ st H := by
      obtain ⟨acc, ds, hD, sr, srd, s, fs, hb, p⟩ := h
      refine ⟨acc, ds, hD, sr, srd, s, fs, hb, ?_⟩
      unfold turnF at p
      rw [bnd_assoc] at p
      have p' := p
      unfold bnd at p'
      rw [eb] at p'
      simp only at p'
      have e2 : bnd (mc ρ') (fun k => bnd (if k = true then mv ρ' else ret []) G) = bnd (bnd (mc ρ') fun k => if k = true then mv ρ' else ret []) G := (bnd_assoc _ _ _).symm
      rw [e2]
      exact p'
    refine ⟨ρ', st, μ, en2, sr, (TSt.step h2).imp fun k μ2 st2 H2 s2 sr2 t2 => ?_⟩
    cases k with
    | true => exact yes ρ' σ2 μ2 st2 H2 s2 hw' (en2.step s2) t2
    | false => exact no μ2 st2 H2 s2 t2
  · obtain ⟨acc, ds, hD, sr, srd, s, fs, hb, p⟩ := h
    unfold turnF at p
    rw [bnd_assoc] at p
    have p' := p
    unfold bnd at p'
    rw [eb] at p'
    exact p'.elim
/-- the loop of a level: what is left behind the loop is OR -/
theorem lvl {J : It} {xs : List Val} {gs : List Nat} {μ1 : Loc_} {st1 : Sto} {H1 : Hp} (ok : JOk (gx X) J xs gs μ1 st1 H1) {D : Addr} {μ0 : Loc_} {st0 : Sto} {H0 : Hp} {b B : Nat} {K : List Dt → Loc_ → Sto → Hp → Prop} {f : Val → M (List Dt)} {OR : M (List Dt)}
    {Fin : Hp → Prop} {Turn : V → Hp → (Hp → Prop) → Prop} {μ : Loc_} {st : Sto} {H : Hp} (a : Adv μ1 st1 H1 μ st H) (h : TSt X D μ0 st0 H0 b (bnd (lcL gs st1 f xs) fun zs => bnd OR fun ws => ret (zs ++ ws)) K μ st H)
    (fin : ∀ μ st H, Adv μ1 st1 H1 μ st H → TSt X D μ0 st0 H0 (b + xs.length * B) OR K μ st H → Fin H)
    (turn : ∀ i v x μ st H (Nx : Hp → Prop), i < xs.length → Adv μ1 st1 H1 μ st H → RV (gx X) μ st H v x → TSt X D μ0 st0 H0 (b + i * B) (bnd (f v) fun ys => bnd (bnd (lcL gs st1 f (xs.drop (i + 1))) fun zs => bnd OR fun ws => ret (zs ++ ws)) fun zs => ret (ys ++ zs)) K μ st H →
      (∀ μ' st' H', Adv μ st H μ' st' H' → TSt X D μ0 st0 H0 (b + (i + 1) * B) (bnd (lcL gs st1 f (xs.drop (i + 1))) fun zs => bnd OR fun ws => ret (zs ++ ws)) K μ' st' H' → Nx H') → Turn x H Nx) :
    ∃ W : Nat → Nat → Hp → Prop, (∃ m, W 0 m H) ∧ ∀ i m H, W i m H → (J.stop i H ∧ Fin H) ∨ (J.go i H ∧ ∃ Nx : Hp → Prop, (∀ H', Nx H' → ∃ m', m' < m ∧ W (i + 1) m' H') ∧ ∀ x H', J.yld i H x H' → Turn x H' Nx) := by
  refine ⟨fun i n H => n = xs.length - i ∧ i ≤ xs.length ∧ ∃ μ st, Adv μ1 st1 H1 μ st H ∧ TSt X D μ0 st0 H0 (b + i * B) (bnd (lcL gs st1 f (xs.drop i)) fun zs => bnd OR fun ws => ret (zs ++ ws)) K μ st H,
    ⟨xs.length, rfl, Nat.zero_le _, μ, st, a, by rw [Nat.zero_mul]; exact h⟩, ?_⟩
  rintro i n H ⟨rfl, hi, μ, st, a, h⟩
  by_cases hlt : i < xs.length
  · rw [List.drop_eq_getElem_cons hlt] at h
    have h' : TSt X D μ0 st0 H0 (b + i * B) (bnd (bnd (held gs st1) fun _ => bnd (f xs[i]) fun ys => bnd (lcL gs st1 f (xs.drop (i + 1))) fun zs => ret (ys ++ zs)) fun zs => bnd OR fun ws => ret (zs ++ ws)) K μ st H := h
    rw [bnd_assoc] at h'
    obtain ⟨hh, h'⟩ := TSt.held h'
    have sr : SR (gx X) μ st H := by obtain ⟨acc, ds, _, sr, _⟩ := h'; exact sr
    obtain ⟨tn, _⟩ := ok.2 μ st H a sr hh
    obtain ⟨go, yld⟩ := tn i _ (List.getElem?_eq_getElem hlt)
    refine .inr ⟨go, fun H' => ∃ μ' st', Adv μ1 st1 H1 μ' st' H' ∧ TSt X D μ0 st0 H0 (b + (i + 1) * B) (bnd (lcL gs st1 f (xs.drop (i + 1))) fun zs => bnd OR fun ws => ret (zs ++ ws)) K μ' st' H', fun H' w => ⟨xs.length - (i + 1), by omega, rfl, hlt, w⟩, fun x H' y => ?_⟩
    obtain ⟨g, rv⟩ := yld x H' y
    have a' : Adv μ1 st1 H1 μ st H' := a.trans g.step.adv
    refine turn i _ x μ st H' _ hlt a' rv ?_ fun μ2 st2 H2 a2 t2 => ⟨μ2, st2, a'.trans a2, t2⟩
    have e : (bnd (f xs[i]) fun ys => bnd (bnd (lcL gs st1 f (xs.drop (i + 1))) fun zs => bnd OR fun ws => ret (zs ++ ws)) fun zs => ret (ys ++ zs)) =
        (bnd (bnd (f xs[i]) fun ys => bnd (lcL gs st1 f (xs.drop (i + 1))) fun zs => ret (ys ++ zs)) fun zs => bnd OR fun ws => ret (zs ++ ws)) := by
      rw [bnd_assoc]
      congr 1
      funext ys
      rw [bnd_assoc, bnd_assoc]
      congr 1
      funext zs
      rw [bnd_ret, bnd_assoc]
      congr 1
      funext ws
      rw [bnd_ret, List.append_assoc]
    rw [e]
    exact h'.grown g
  · have e : i = xs.length := by omega
    subst e
    rw [List.drop_length] at h
    have h' : TSt X D μ0 st0 H0 (b + xs.length * B) (bnd (bnd (held gs st1) fun _ => ret []) fun zs => bnd OR fun ws => ret (zs ++ ws)) K μ st H := h
    rw [bnd_assoc] at h'
    obtain ⟨hh, h'⟩ := TSt.held h'
    have sr : SR (gx X) μ st H := by obtain ⟨acc, ds, _, sr, _⟩ := h'; exact sr
    refine .inl ⟨(ok.2 μ st H a sr hh).2, fin μ st H a ?_⟩
    rw [bnd_ret] at h'
    have e : (bnd OR fun ws => ret ([] ++ ws)) = OR := by
      show bnd OR ret = OR
      exact ret_bnd _
    rw [e] at h'
    exact h'
/-- the end: the list as a value -/
theorem TSt.fin {D : Addr} {μ0 : Loc_} {st0 : Sto} {H0 : Hp} {b mm : Nat} {W' : Value → Option Addr → Hp → Prop} {Q : VK} {μ : Loc_} {st : Sto} {H : Hp}
    (h : TSt X D μ0 st0 H0 b (ret []) (fun zs μ2 st2 H2 => Post (gx X) W' μ2 st2 H2 (fresh mm (.list zs) st2) fun v μ' st' H' => ∀ x, RV (gx X) μ' st' H' v x → Q x H') μ st H) : restR Q (.ref D) H := by
  obtain ⟨acc, ds, hD, sr, srd, s, fs, hb, p⟩ := h
  have p3 := Post.ok (a := ([] : List Dt)) srd p
  rw [List.append_nil] at p3
  have := raw_fresh srd p3 (del H D) D acc (.refl _) del_same fs
  rw [upd_del hD] at this
  exact this
theorem lc_rd {σ : L2.St} {H : Hp} {Q : VK} {t : T} {own : List Nat} {m : Nat} {mi : Env → M (List Val × List Nat)} {mc : Env → M Bool} {me : Env → M Val} (ht : ∀ i ∈ t.slots, i ∈ own)
    (h : RdE (gx X) W (fun ρ => bnd (mi ρ) fun q => fun st => bnd (shut (lcL q.2 st (turnF t own mc (fun ρ' => bnd (me ρ') fun v => bnd (pureD v) fun y => ret [y]) ρ) q.1)) (fun ys => fresh m (.list ys)) st) σ H Q) :
    tLc (RdI (gx X) W mi) (gT X.K t) (RdT (gx X) NoW mc) (RdE (gx X) NoW me) own σ H (restR Q) := by
  obtain ⟨ρ, st0, μ0, en, sr0, p⟩ := h
  refine ⟨ρ, st0, μ0, en, sr0, (Post.bnd p).imp fun q μ1 st1 H1 s1 sr1 p1 J ok D hD => ?_⟩
  obtain ⟨xs, gs⟩ := q
  have en1 := en.step s1
  have hz : xs.length ≤ sizeLine := ok.1
  have p2 := p1.bnd.shut (W' := NoX)
  refine lvl (b := 0) (B := 1) (OR := ret []) (μ0 := μ1) (st0 := st1) (H0 := H1) ok (D := D) (f := turnF t own mc (fun ρ' => bnd (me ρ') fun v => bnd (pureD v) fun y => ret [y]) ρ)
    (K := fun zs μ2 st2 H2 => Post (gx X) (fun c d H' => W c d σ H') μ2 st2 H2 (fresh m (.list zs) st2) fun v μ' st' H' => ∀ x, RV (gx X) μ' st' H' v x → Q x H')
    (Fin := fun H => restR Q (.ref D) H)
    (Turn := fun x H Nx => gT X.K t x (wipe σ own) H fun σ2 H2 => wipe σ2 own = wipe σ own ∧ RdT (gx X) NoW mc σ2 H2 fun b H3 => if b = true then RdE (gx X) NoW me σ2 H3 fun y H4 => ∃ acc, H4 D = some (.lst acc) ∧ acc.length < sizeLine ∧ Nx (upd H4 D (.lst (acc ++ [y]))) else Nx H3)
    (Step.adv (.trans (.refl _ _ _) (Grown.new hD).step)) ⟨[], [], upd_same, sr1.grown (.new hD), by rw [del_upd, del_none hD]; exact sr1, by rw [del_upd, del_none hD]; exact .refl _ _ _, RFs.nil, Nat.le_refl _, ?_⟩ (fun μ st H a h => h.fin) fun i v x μ st H Nx hi a rv h nx => ?_
  · rw [del_upd, del_none hD]
    have e : (fun zs : List Dt => bnd (ret []) fun ws => ret (zs ++ ws)) = ret := by
      funext zs
      rw [bnd_ret, List.append_nil]
    rw [e, ret_bnd]
    exact p2
  · refine tc_rd ht (en1.adv a) rv h (fun μ2 st2 H2 s2 t2 => ?_) fun ρ' σ2 μ2 st2 H2 s2 hw en2 t2 => ?_
    · refine nx μ2 st2 H2 s2.adv (TSt.more (b := 0 + i * 1) (by omega) ?_)
      have e : (bnd (bnd (lcL gs st1 (turnF t own mc (fun ρ' => bnd (me ρ') fun v => bnd (pureD v) fun y => ret [y]) ρ) (xs.drop (i + 1))) fun zs => bnd (ret []) fun ws => ret (zs ++ ws)) fun zs => ret ([] ++ zs)) =
        (bnd (lcL gs st1 (turnF t own mc (fun ρ' => bnd (me ρ') fun v => bnd (pureD v) fun y => ret [y]) ρ) (xs.drop (i + 1))) fun zs => bnd (ret []) fun ws => ret (zs ++ ws)) := ret_bnd _
      rw [e] at t2
      exact t2
    · rw [bnd_assoc] at t2
      have sr2 : SR (gx X) μ2 st2 H2 := by obtain ⟨acc, ds, _, sr, _⟩ := t2; exact sr
      refine ⟨ρ', st2, μ2, en2, sr2, (TSt.step t2).imp fun v μ3 st3 H3 s3 sr3 t3 y ry => ?_⟩
      rw [bnd_assoc] at t3
      cases v with
      | d dy =>
        obtain ⟨acc, hacc, hl, t4, a4⟩ := TSt.push (dy := dy) t3 ry
        have hi' : i < xs.length := hi
        refine ⟨acc, hacc, by omega, nx μ3 st3 _ ((s2.trans s3).adv.trans a4) ?_⟩
        have eb : 0 + i * 1 + 1 = 0 + (i + 1) * 1 := by omega
        rw [← eb]
        exact t4
      | _ => obtain ⟨acc, ds, _, _, _, _, _, _, pp⟩ := t3; exact pp.elim
end
end EV
end

section
set_option autoImplicit false
set_option linter.all false
set_option maxRecDepth 100000
set_option Elab.async false
/-! EvC2: comprehensions of two clauses; the rules. -/
namespace EV
open PySem PySem.Spec
open PyProof.Rows L2
section
variable {X : Cx} {W : WX}
theorem lc2_rd {σ : L2.St} {H : Hp} {Q : VK} {t t1 : T} {own own1 : List Nat} {m : Nat} {mi mi1 : Env → M (List Val × List Nat)} {mc mc1 : Env → M Bool} {me : Env → M Val} (ht : ∀ i ∈ t.slots, i ∈ own) (ht1 : ∀ i ∈ t1.slots, i ∈ own1)
    (h : RdE (gx X) W (fun ρ => bnd (mi ρ) fun q => fun st => bnd (shut (lcL q.2 st (turnF t own mc (fun ρ => bnd (mi1 ρ) fun q1 => fun st1 => if fits (q.1.length * q1.1.length) = false then .bad else
      lcL q1.2 st1 (turnF t1 own1 mc1 (fun ρ => bnd (me ρ) fun v => bnd (pureD v) fun y => ret [y]) ρ) q1.1 st1) ρ) q.1)) (fun ys => fresh m (.list ys)) st) σ H Q) :
    tLc2 (RdI (gx X) W mi) (gT X.K t) (RdT (gx X) NoW mc) (RdI (gx X) NoW mi1) (gT X.K t1) (RdT (gx X) NoW mc1) (RdE (gx X) NoW me) own own1 σ H (restR Q) := by
  obtain ⟨ρ, st0, μ0, en, sr0, p⟩ := h
  refine ⟨ρ, st0, μ0, en, sr0, (Post.bnd p).imp fun q μ1 st1 H1 s1 sr1 p1 J ok D hD => ?_⟩
  obtain ⟨xs, gs⟩ := q
  have en1 := en.step s1
  have hz : xs.length ≤ sizeLine := ok.1
  have p2 := p1.bnd.shut (W' := NoX)
  let F1 : Env → Val → M (List Dt) := fun ρ => turnF t1 own1 mc1 (fun ρ => bnd (me ρ) fun v => bnd (pureD v) fun y => ret [y]) ρ
  let IN : Env → M (List Dt) := fun ρ => bnd (mi1 ρ) fun q1 => fun st1 => if fits (xs.length * q1.1.length) = false then .bad else lcL q1.2 st1 (F1 ρ) q1.1 st1
  let K : List Dt → Loc_ → Sto → Hp → Prop := fun zs μ2 st2 H2 => Post (gx X) (fun c d H' => W c d σ H') μ2 st2 H2 (fresh m (.list zs) st2) fun v μ' st' H' => ∀ x, RV (gx X) μ' st' H' v x → Q x H'
  refine lvl (b := 0) (B := sizeLine / xs.length) (OR := ret []) (μ0 := μ1) (st0 := st1) (H0 := H1) ok (D := D) (f := turnF t own mc IN ρ) (K := K)
    (Fin := fun H => restR Q (.ref D) H)
    (Turn := fun x H Nx => gT X.K t x (wipe σ own) H fun σ2 H2 => wipe σ2 own = wipe σ own ∧ RdT (gx X) NoW mc σ2 H2 fun b H3 =>
      if b = true then RdI (gx X) NoW mi1 σ2 H3 fun J1 H4 => ∃ W1 : Nat → Nat → Hp → Prop, (∃ m, W1 0 m H4) ∧ ∀ j k H, W1 j k H →
        (J1.stop j H ∧ Nx H) ∨ (J1.go j H ∧ ∃ Nx1 : Hp → Prop, (∀ H', Nx1 H' → ∃ k', k' < k ∧ W1 (j + 1) k' H') ∧ ∀ x H', J1.yld j H x H' → gT X.K t1 x (wipe σ2 own1) H' fun σ3 H5 => wipe σ3 own1 = wipe σ2 own1 ∧ RdT (gx X) NoW mc1 σ3 H5 fun b H6 =>
          if b = true then RdE (gx X) NoW me σ3 H6 fun y H7 => ∃ acc, H7 D = some (.lst acc) ∧ acc.length < sizeLine ∧ Nx1 (upd H7 D (.lst (acc ++ [y]))) else Nx1 H6)
      else Nx H3)
    (Step.adv (.trans (.refl _ _ _) (Grown.new hD).step)) ⟨[], [], upd_same, sr1.grown (.new hD), by rw [del_upd, del_none hD]; exact sr1, by rw [del_upd, del_none hD]; exact .refl _ _ _, RFs.nil, Nat.le_refl _, ?_⟩ (fun μ st H a h => h.fin) fun i v x μ st H Nx hi a rv h nx => ?_
  · rw [del_upd, del_none hD]
    have e : (fun zs : List Dt => bnd (ret []) fun ws => ret (zs ++ ws)) = ret := by
      funext zs
      rw [bnd_ret, List.append_nil]
    rw [e, ret_bnd]
    exact p2
  · have hi' : i < xs.length := hi
    refine tc_rd ht (en1.adv a) rv h (fun μ2 st2 H2 s2 t2 => ?_) fun ρ' σ2 μ2 st2 H2 s2 hw en2 t2 => ?_
    · refine nx μ2 st2 H2 s2.adv (TSt.more (b := 0 + i * (sizeLine / xs.length)) (by rw [Nat.succ_mul]; generalize sizeLine / xs.length = z; omega) ?_)
      have e : (bnd (bnd (lcL gs st1 (turnF t own mc IN ρ) (xs.drop (i + 1))) fun zs => bnd (ret []) fun ws => ret (zs ++ ws)) fun zs => ret ([] ++ zs)) =
        (bnd (lcL gs st1 (turnF t own mc IN ρ) (xs.drop (i + 1))) fun zs => bnd (ret []) fun ws => ret (zs ++ ws)) := ret_bnd _
      rw [e] at t2
      exact t2
    · -- the second clause
      have sr2 : SR (gx X) μ2 st2 H2 := by obtain ⟨acc, ds, _, sr, _⟩ := t2; exact sr
      have t2' : TSt X D μ1 st1 H1 (0 + i * (sizeLine / xs.length)) (bnd (bnd (mi1 ρ') fun q1 => fun st1 => if fits (xs.length * q1.1.length) = false then .bad else lcL q1.2 st1 (F1 ρ') q1.1 st1) fun ys =>
          bnd (bnd (lcL gs st1 (turnF t own mc IN ρ) (xs.drop (i + 1))) fun zs => bnd (ret []) fun ws => ret (zs ++ ws)) fun zs => ret (ys ++ zs)) K μ2 st2 H2 := t2
      rw [bnd_assoc] at t2'
      refine ⟨ρ', st2, μ2, en2, sr2, (TSt.step t2').imp fun q1 μ3 st3 H3 s3 sr3 t3 J1 ok1 => ?_⟩
      obtain ⟨xs1, gs1⟩ := q1
      by_cases hf : fits (xs.length * xs1.length) = true
      · have t4 : TSt X D μ1 st1 H1 (0 + i * (sizeLine / xs.length)) (bnd (lcL gs1 st3 (F1 ρ') xs1) fun ys =>
            bnd (bnd (lcL gs st1 (turnF t own mc IN ρ) (xs.drop (i + 1))) fun zs => bnd (ret []) fun ws => ret (zs ++ ws)) fun zs => ret (ys ++ zs)) K μ3 st3 H3 := by
          obtain ⟨acc, ds, c1, c2, c3, c4, c5, c6, c7⟩ := t3
          refine ⟨acc, ds, c1, c2, c3, c4, c5, c6, ?_⟩
          have e : (bnd (fun st1_1 => if fits (xs.length * xs1.length) = false then Res.bad else lcL gs1 st1_1 (F1 ρ') xs1 st1_1) fun ys =>
              bnd (bnd (lcL gs st1 (turnF t own mc IN ρ) (xs.drop (i + 1))) fun zs => bnd (ret []) fun ws => ret (zs ++ ws)) fun zs => ret (ys ++ zs)) st3 =
            (bnd (lcL gs1 st3 (F1 ρ') xs1) fun ys =>
              bnd (bnd (lcL gs st1 (turnF t own mc IN ρ) (xs.drop (i + 1))) fun zs => bnd (ret []) fun ws => ret (zs ++ ws)) fun zs => ret (ys ++ zs)) st3 := by
            unfold bnd
            simp only [hf]
            rfl
          rw [← e]
          exact c7
        have hpos : 0 < xs.length := by omega
        have hB : xs1.length ≤ sizeLine / xs.length := by
          rw [Nat.le_div_iff_mul_le hpos, Nat.mul_comm]
          exact fits_iff hf
        have hTop : (i + 1) * (sizeLine / xs.length) ≤ sizeLine := Nat.le_trans (Nat.mul_le_mul_right _ (by omega : i + 1 ≤ xs.length)) (Nat.mul_div_le _ _)
        have hsucc : (i + 1) * (sizeLine / xs.length) = i * (sizeLine / xs.length) + sizeLine / xs.length := Nat.succ_mul _ _
        have a3 : Adv μ st H μ3 st3 H3 := (s2.trans s3).adv
        have en3 := en2.step s3
        refine lvl (b := 0 + i * (sizeLine / xs.length)) (B := 1) (μ0 := μ1) (st0 := st1) (H0 := H1) ok1 (D := D) (f := F1 ρ') (K := K) (OR := bnd (lcL gs st1 (turnF t own mc IN ρ) (xs.drop (i + 1))) fun zs => bnd (ret []) fun ws => ret (zs ++ ws))
          (Fin := Nx)
          (Turn := fun x H' Nx1 => gT X.K t1 x (wipe σ2 own1) H' fun σ3 H5 => wipe σ3 own1 = wipe σ2 own1 ∧ RdT (gx X) NoW mc1 σ3 H5 fun b H6 =>
            if b = true then RdE (gx X) NoW me σ3 H6 fun y H7 => ∃ acc, H7 D = some (.lst acc) ∧ acc.length < sizeLine ∧ Nx1 (upd H7 D (.lst (acc ++ [y]))) else Nx1 H6)
          (Step.adv (.refl _ _ _)) t4 (fun μ4 st4 H4 a4 t5 => ?_) fun j v1 x1 μ4 st4 H4 Nx1 hj a4 rv1 t5 nx1 => ?_
        · refine nx μ4 st4 H4 (a3.trans a4) (TSt.more (by rw [hsucc]; have : xs1.length ≤ sizeLine / xs.length := hB; show 0 + i * (sizeLine / xs.length) + xs1.length * 1 ≤ _; omega) t5)
        · have hj' : j < xs1.length := hj
          refine tc_rd ht1 (en3.adv a4) rv1 t5 (fun μ5 st5 H5 s5 t6 => ?_) fun ρ'' σ3 μ5 st5 H5 s5 hw3 en5 t6 => ?_
          · refine nx1 μ5 st5 H5 s5.adv (TSt.more (b := 0 + i * (sizeLine / xs.length) + j * 1) (by omega) ?_)
            have e : ∀ m : M (List Dt), (bnd m fun zs => ret ([] ++ zs)) = m := fun m => ret_bnd m
            rw [e] at t6
            exact t6
          · rw [bnd_assoc] at t6
            have sr5 : SR (gx X) μ5 st5 H5 := by obtain ⟨acc, ds, _, sr, _⟩ := t6; exact sr
            refine ⟨ρ'', st5, μ5, en5, sr5, (TSt.step t6).imp fun w μ6 st6 H6 s6 sr6 t7 y ry => ?_⟩
            rw [bnd_assoc] at t7
            cases w with
            | d dy =>
              obtain ⟨acc, hacc, hl, t8, a8⟩ := TSt.push (dy := dy) t7 ry
              refine ⟨acc, hacc, by omega, nx1 μ6 st6 _ ((s5.trans s6).adv.trans a8) ?_⟩
              have eb : 0 + i * (sizeLine / xs.length) + j * 1 + 1 = 0 + i * (sizeLine / xs.length) + (j + 1) * 1 := by omega
              rw [← eb]
              exact t8
            | _ => obtain ⟨acc, ds, _, _, _, _, _, _, pp⟩ := t7; exact pp.elim
      · obtain ⟨acc, ds, _, _, _, _, _, _, pp⟩ := t3
        exfalso
        have hf' : fits (xs.length * xs1.length) = false := by simpa using hf
        unfold bnd at pp
        simp only [hf'] at pp
        exact pp.elim
/-! ### the rules -/
/-- a comprehension's block -/
abbrev Blk (X : Cx) (scope : Scope) (s : Shared) (H : Hp) (C : Addr) (cl : List (Str × Addr)) (fp : List Addr) : Cx := X.blk s H scope (compEnvC scope cl C X.env) fp
theorem e_lc1 {elt tg iter : Expr} {ifs : List Expr} {scope : Scope} {own : List (Str × Nat)} {pos : Pos} {t : T} {m : Nat} {mi : Env → M (List Val × List Nat)} {mc : Env → M Bool} {me : Env → M Val} (hc : X.calm = true) (hN : X.N.Nodup) (ok : BlkOk X.N X.env.scope scope own)
    (ht : ∀ i ∈ t.slots, i ∈ own.map (·.2)) (hi : PI X tg iter (RdI (gx X) W mi)) (hg : ∀ s H C cl fp, PG (Blk X scope s H C cl fp) tg (gT X.K t)) (hq : ∀ s H C cl fp, PTs (Blk X scope s H C cl fp) ifs (RdT (gx X) NoW mc))
    (he : ∀ s H C cl fp, PE (Blk X scope s H C cl fp) elt (RdE (gx X) NoW me)) (hs : ∀ x, foldedSetIterable iter X.env x = pure x) :
    PE X (.ListComp elt [⟨tg, iter, ifs, 0⟩] scope pos) (RdE (gx X) W (fun ρ => bnd (mi ρ) fun q => fun st => bnd (shut (lcL q.2 st (turnF t (own.map (·.2)) mc (fun ρ' => bnd (me ρ') fun v => bnd (pureD v) fun y => ret [y]) ρ) q.1)) (fun ys => fresh m (.list ys)) st)) :=
  (pe_lc hc hN hi ok hg hq he hs).restR.imp fun σ H Q h => lc_rd ht h
theorem e_lc2 {elt tg iter tg1 iter1 : Expr} {ifs ifs1 : List Expr} {scope : Scope} {own : List (Str × Nat)} {own1 : List Nat} {pos : Pos} {t t1 : T} {m : Nat} {mi mi1 : Env → M (List Val × List Nat)} {mc mc1 : Env → M Bool} {me : Env → M Val} (hc : X.calm = true) (hN : X.N.Nodup) (ok : BlkOk X.N X.env.scope scope own)
    (hv : ∀ i ∈ own1, i ∈ own.map (·.2)) (ht : ∀ i ∈ t.slots, i ∈ own.map (·.2)) (ht1 : ∀ i ∈ t1.slots, i ∈ own1) (hi : PI X tg iter (RdI (gx X) W mi)) (hg : ∀ s H C cl fp, PG (Blk X scope s H C cl fp) tg (gT X.K t)) (hq : ∀ s H C cl fp, PTs (Blk X scope s H C cl fp) ifs (RdT (gx X) NoW mc))
    (hi1 : ∀ s H C cl fp, PI (Blk X scope s H C cl fp) tg1 iter1 (RdI (gx X) NoW mi1)) (hg1 : ∀ s H C cl fp, PG (Blk X scope s H C cl fp) tg1 (gT X.K t1)) (hq1 : ∀ s H C cl fp, PTs (Blk X scope s H C cl fp) ifs1 (RdT (gx X) NoW mc1))
    (he : ∀ s H C cl fp, PE (Blk X scope s H C cl fp) elt (RdE (gx X) NoW me)) (hs : ∀ x, foldedSetIterable iter X.env x = pure x) (hs1 : ∀ env x, foldedSetIterable iter1 env x = pure x) :
    PE X (.ListComp elt [⟨tg, iter, ifs, 0⟩, ⟨tg1, iter1, ifs1, 0⟩] scope pos) (RdE (gx X) W (fun ρ => bnd (mi ρ) fun q => fun st => bnd (shut (lcL q.2 st (turnF t (own.map (·.2)) mc (fun ρ => bnd (mi1 ρ) fun q1 => fun st1 => if fits (q.1.length * q1.1.length) = false then .bad else
      lcL q1.2 st1 (turnF t1 own1 mc1 (fun ρ => bnd (me ρ) fun v => bnd (pureD v) fun y => ret [y]) ρ) q1.1 st1) ρ) q.1)) (fun ys => fresh m (.list ys)) st)) :=
  (pe_lc2 hc hN hi ok hv hg hq hi1 hg1 hq1 he hs hs1).restR.imp fun σ H Q h => lc2_rd ht ht1 h
end
end EV
end

section
set_option autoImplicit false
set_option linter.all false
set_option maxRecDepth 100000
set_option Elab.async false
/-! EvS: statements. -/
namespace EV
open PySem PySem.Spec
open PyProof.Rows L2

/-- what is wanted behind a statement -/
def FlowK (G : Wd) (D : Ends) (q : Flow × Env) (μ : Loc_) (st : Sto) (H : Hp) : Prop :=
  match q.1 with
  | .nx => ∀ σ, EnvOk G μ st H q.2 σ → D.nx σ H
  | .brk => ∀ σ, EnvOk G μ st H q.2 σ → D.bk σ H
  | .cnt => ∀ σ, EnvOk G μ st H q.2 σ → D.ct σ H
  | .ret v => ∀ x, RV G μ st H v x → D.rt x H
/-- a statement's reading -/
def RdS (G : Wd) (W : WX) (m : Env → M (Flow × Env)) : TS := fun D σ H => ∃ ρ st μ, EnvOk G μ st H ρ σ ∧ SR G μ st H ∧ Post G (fun c d H' => ∀ σ', W c d σ' H') μ st H (m ρ st) fun q μ' st' H' => FlowK G D q μ' st' H'
theorem Post.wish {α : Type} {G : Wd} {W W' : Value → Option Addr → Hp → Prop} {μ : Loc_} {st : Sto} {H : Hp} {r : Res α} {k : α → Loc_ → Sto → Hp → Prop} (h : Post G W μ st H r k) (f : ∀ c d H, W c d H → W' c d H) : Post G W' μ st H r k := by
  cases r with
  | ok a st' => exact h
  | err e st' => exact fun μ' H' cls dx s sr er => f _ _ _ (h μ' H' cls dx s sr er)
  | bad => exact h
section
variable {X : Cx} {W : WX} {a : Expr} {ma : Env → M Val} {mb mc : Env → M (Flow × Env)} {pos : Pos}
/-- an expression, then what comes behind it -/
theorem rds1 {G : Wd} {f : Env → Val → M (Flow × Env)} {D : Ends} {σ : L2.St} {H : Hp} {R : V → Hp → Prop} (h : RdS G W (fun ρ => bnd (ma ρ) fun v => f ρ v) D σ H)
    (g : ∀ ρ v μ st H1 x, EnvOk G μ st H1 ρ σ → SR G μ st H1 → RV G μ st H1 v x → Post G (fun c d H' => ∀ σ', W c d σ' H') μ st H1 (f ρ v st) (fun q μ' st' H' => FlowK G D q μ' st' H') → R x H1) : RdE G W ma σ H R := by
  obtain ⟨ρ, st, μ, en, sr, p⟩ := h
  refine ⟨ρ, st, μ, en, sr, ((Post.bnd p).wish fun c d H w => w σ).imp fun v μ1 st1 H1 s1 sr1 q1 x rx => g ρ v μ1 st1 H1 x (en.step s1) sr1 rx q1⟩
theorem s_ret (ha : PE X a (RdE (gx X) W ma)) : PS X (.Return (some a) pos) (RdS (gx X) W fun ρ => bnd (ma ρ) fun v => ret (.ret v, ρ)) :=
  (ps_ret ha).imp fun D σ H h => rds1 h fun ρ v μ st H1 x en sr rx p => (Post.ok (a := (Flow.ret v, ρ)) sr p : ∀ x, RV (gx X) μ st H1 v x → D.rt x H1) x rx
theorem s_retN : PS X (.Return none pos) (RdS (gx X) W fun ρ => bnd (bnd (opt (conD .none)) fun x => ret (.d x)) fun v => ret (.ret v, ρ)) := ps_retN.imp fun D σ H h => by
  obtain ⟨ρ, st, μ, en, sr, p⟩ := h
  exact (Post.ok (a := (Flow.ret (.d .none), ρ)) sr p : ∀ x, RV (gx X) μ st H (.d .none) x → D.rt x H) .non (rf_none (G := gx X) (H := H))
theorem s_exp (ha : PE X a (RdE (gx X) W ma)) (hs : swapsWith a none pos.line X.env = pure false) : PS X (.Expr a pos) (RdS (gx X) W fun ρ => bnd (ma ρ) fun _ => ret (.nx, ρ)) :=
  (ps_expr ha hs).imp fun D σ H h => rds1 h fun ρ v μ st H1 x en sr rx p => (Post.ok (a := (Flow.nx, ρ)) sr p : ∀ σ', EnvOk (gx X) μ st H1 ρ σ' → D.nx σ' H1) σ en
theorem s_pass : PS X (.Pass pos) (RdS (gx X) W fun ρ => ret (.nx, ρ)) := ps_pass.imp fun D σ H h => by
  obtain ⟨ρ, st, μ, en, sr, p⟩ := h
  exact (Post.ok (a := (Flow.nx, ρ)) sr p : ∀ σ', EnvOk (gx X) μ st H ρ σ' → D.nx σ' H) σ en
theorem s_doc {x j pos'} : PS X (.Expr (.Constant (.str x) j pos) pos') (RdS (gx X) W fun ρ => ret (.nx, ρ)) := ps_doc.imp fun D σ H h => by
  obtain ⟨ρ, st, μ, en, sr, p⟩ := h
  exact (Post.ok (a := (Flow.nx, ρ)) sr p : ∀ σ', EnvOk (gx X) μ st H ρ σ' → D.nx σ' H) σ en
theorem s_brk : PS X (.Break pos) (RdS (gx X) W fun ρ => ret (.brk, ρ)) := ps_break.imp fun D σ H h => by
  obtain ⟨ρ, st, μ, en, sr, p⟩ := h
  exact (Post.ok (a := (Flow.brk, ρ)) sr p : ∀ σ', EnvOk (gx X) μ st H ρ σ' → D.bk σ' H) σ en
theorem s_nev {st : Stmt} : PS X st (RdS (gx X) W fun _ => bad) := ⟨fun pins s σ H D I h => by
  obtain ⟨ρ, st, μ, en, sr, p⟩ := h
  exact p.elim⟩
theorem s_ife {c : Expr} {ys ns : List Stmt} {mt : Env → M Val} (hc : PT X c (RdT (gx X) W fun ρ => bnd (mt ρ) asBool)) (hy : PSs X ys (RdS (gx X) W mb)) (hn : PSs X ns (RdS (gx X) W mc)) :
    PS X (.If c ys ns pos) (RdS (gx X) W fun ρ => bnd (mt ρ) fun v => bnd (asBool v) fun k => if k then mb ρ else mc ρ) :=
  (ps_if hc hy hn).imp fun D σ H h => by
    obtain ⟨ρ, st, μ, en, sr, p⟩ := h
    have p : Post _ _ _ _ _ (EV.bnd (mt ρ) (fun v => EV.bnd (EV.asBool v) fun k => if k = true then mb ρ else mc ρ) st) _ := p
    rw [← bnd_assoc] at p
    refine ⟨ρ, st, μ, en, sr, ((Post.bnd p).wish fun c d H w => w σ).imp fun k μ1 st1 H1 s1 sr1 q1 => ?_⟩
    cases k with
    | true => exact ⟨ρ, st1, μ1, en.step s1, sr1, q1⟩
    | false => exact ⟨ρ, st1, μ1, en.step s1, sr1, q1⟩
/-! ### blocks -/
theorem ss_nil : PSs X [] (RdS (gx X) W fun ρ => ret (.nx, ρ)) := pss_nil.imp fun D σ H h => by
  obtain ⟨ρ, st, μ, en, sr, p⟩ := h
  exact (Post.ok (a := (Flow.nx, ρ)) sr p : ∀ σ', EnvOk (gx X) μ st H ρ σ' → D.nx σ' H) σ en
theorem ss_cons {s : Stmt} {ss : List Stmt} (h1 : PS X s (RdS (gx X) W mb)) (h2 : PSs X ss (RdS (gx X) W mc)) : PSs X (s :: ss) (RdS (gx X) W fun ρ => bnd (mb ρ) fun q => match q.1 with
    | .nx => mc q.2
    | f => ret (f, q.2)) := (pss_cons h1 h2).imp fun D σ H h => by
  obtain ⟨ρ, st, μ, en, sr, p⟩ := h
  refine ⟨ρ, st, μ, en, sr, (Post.bnd p).imp fun q μ1 st1 H1 s1 sr1 q1 => ?_⟩
  obtain ⟨f, ρ'⟩ := q
  cases f with
  | nx => exact fun σ' en' => ⟨ρ', st1, μ1, en', sr1, q1⟩
  | brk =>
    have q2 : Post (gx X) (fun c d H' => ∀ σ', W c d σ' H') μ1 st1 H1 (EV.ret (Flow.brk, ρ') st1) fun q μ' st' H' => FlowK (gx X) D q μ' st' H' := q1
    have q3 := Post.ok sr1 q2
    exact q3
  | cnt =>
    have q2 : Post (gx X) (fun c d H' => ∀ σ', W c d σ' H') μ1 st1 H1 (EV.ret (Flow.cnt, ρ') st1) fun q μ' st' H' => FlowK (gx X) D q μ' st' H' := q1
    have q3 := Post.ok sr1 q2
    exact q3
  | ret v =>
    have q2 : Post (gx X) (fun c d H' => ∀ σ', W c d σ' H') μ1 st1 H1 (EV.ret (Flow.ret v, ρ') st1) fun q μ' st' H' => FlowK (gx X) D q μ' st' H' := q1
    have q3 := Post.ok sr1 q2
    exact q3
/-! ### stores -/
theorem s_asg {tg : Expr} {t : T} (ha : PE X a (RdE (gx X) W ma)) (hg : PG X tg (gT X.K t)) (hs : swapsWithSole [tg] a pos.line X.env = pure false) (hw : swappedStores [tg] a X.env = pure none)
    (h1 : (assignEach [tg] X.env).map (·.2) = [assign tg X.env]) : PS X (.Assign [tg] a pos) (RdS (gx X) W fun ρ => bnd (ma ρ) fun v => bnd (bind1 t v ρ) fun ρ' => ret (.nx, ρ')) :=
  (ps_asg ha hg hs hw h1).imp fun D σ H h => rds1 h fun ρ v μ st H1 x en sr rx p => by
    rcases bind1_res (t := t) (vv := v) (ρ := ρ) (st := st) with ⟨ρ', eb⟩ | eb
    · refine (gT_of (own := t.slots) en rx eb fun σ2 en2 _ => ?_).2
      have p' := p
      unfold EV.bnd at p'
      rw [eb] at p'
      exact (Post.ok (a := (Flow.nx, ρ')) sr p' : ∀ σ', EnvOk (gx X) μ st H1 ρ' σ' → D.nx σ' H1) σ2 en2
    · have p' := p
      unfold EV.bnd at p'
      rw [eb] at p'
      exact p'.elim
theorem setAll_len : ∀ {is : List Nat} {vs : List Val} {ρ : Env}, (setAll is vs ρ).length = ρ.length
  | [], vs, ρ => by cases vs <;> rfl
  | i :: is, [], ρ => rfl
  | i :: is, v :: vs, ρ => by
    show (setAll is vs (ρ.set i (some v))).length = _
    rw [setAll_len]; simp
theorem s_par2 {i j : Nat} {x y : Str} {b : Expr} {px py pt : Pos} {kt k2 : Nat} {pt2 : Pos} {ms : Env → M (List Val)} (hc : X.calm = true) (hN : X.N.Nodup) (hi : X.N[i]? = some x) (hj : X.N[j]? = some y) (hij : i ≠ j)
    (hx : X.env.scope.names.lookup x = some .local) (hy : X.env.scope.names.lookup y = some .local) (hs : PA X [a, b] (RdA (gx X) W ms))
    (hw : swappedStores [.Tuple [.Name x px, .Name y py] kt pt] (.Tuple [a, b] k2 pt2) X.env = pure (some [x, y])) :
    PS X (.Assign [.Tuple [.Name x px, .Name y py] kt pt] (.Tuple [a, b] k2 pt2) pos) (RdS (gx X) W fun ρ => bnd (ms ρ) fun vs => if vs.length = [i, j].length then ret (.nx, setAll [i, j] vs ρ) else bad) :=
  (ps_par hc hN hi hj hij hx hy hs hw).imp fun D σ H h => by
    obtain ⟨ρ, st, μ, en, sr, p⟩ := h
    refine ⟨ρ, st, μ, en, sr, ((Post.bnd p).wish fun c d H w => w σ).imp fun vs μ1 st1 H1 s1 sr1 q1 xs rx => ?_⟩
    split at q1
    · rename_i hl
      match vs, hl, rx, q1 with
      | [v, w], _, rx, q1 =>
        cases rx with
        | cons r1 r2 =>
          cases r2 with
          | cons r2 r3 =>
            cases r3
            refine ⟨_, _, rfl, ?_⟩
            exact (Post.ok (a := (Flow.nx, setAll [i, j] [v, w] ρ)) sr1 q1 : ∀ σ', EnvOk (gx X) μ1 st1 H1 _ σ' → D.nx σ' H1) _ (((en.step s1).set r1 i).set r2 j)
    · exact q1.elim
theorem s_par3 {i j l : Nat} {x y z : Str} {b c : Expr} {px py pz pt : Pos} {kt k2 : Nat} {pt2 : Pos} {ms : Env → M (List Val)} (hc : X.calm = true) (hN : X.N.Nodup) (hi : X.N[i]? = some x) (hj : X.N[j]? = some y) (hl : X.N[l]? = some z) (hij : i ≠ j) (hil : i ≠ l) (hjl : j ≠ l)
    (hx : X.env.scope.names.lookup x = some .local) (hy : X.env.scope.names.lookup y = some .local) (hz : X.env.scope.names.lookup z = some .local) (hs : PA X [a, b, c] (RdA (gx X) W ms))
    (hw : swappedStores [.Tuple [.Name x px, .Name y py, .Name z pz] kt pt] (.Tuple [a, b, c] k2 pt2) X.env = pure (some [x, y, z])) :
    PS X (.Assign [.Tuple [.Name x px, .Name y py, .Name z pz] kt pt] (.Tuple [a, b, c] k2 pt2) pos) (RdS (gx X) W fun ρ => bnd (ms ρ) fun vs => if vs.length = [i, j, l].length then ret (.nx, setAll [i, j, l] vs ρ) else bad) :=
  (ps_par3 hc hN hi hj hl hij hil hjl hx hy hz hs hw).imp fun D σ H h => by
    obtain ⟨ρ, st, μ, en, sr, p⟩ := h
    refine ⟨ρ, st, μ, en, sr, ((Post.bnd p).wish fun c d H w => w σ).imp fun vs μ1 st1 H1 s1 sr1 q1 xs rx => ?_⟩
    split at q1
    · rename_i hl
      match vs, hl, rx, q1 with
      | [v, w, u], _, rx, q1 =>
        cases rx with
        | cons r1 r2 =>
          cases r2 with
          | cons r2 r3 =>
            cases r3 with
            | cons r3 r4 =>
              cases r4
              refine ⟨_, _, _, rfl, ?_⟩
              exact (Post.ok (a := (Flow.nx, setAll [i, j, l] [v, w, u] ρ)) sr1 q1 : ∀ σ', EnvOk (gx X) μ1 st1 H1 _ σ' → D.nx σ' H1) _ ((((en.step s1).set r1 i).set r2 j).set r3 l)
    · exact q1.elim
/-! ### loops -/
theorem s_for {tg iter : Expr} {body : List Stmt} {t : T} {mi : Env → M (List Val × List Nat)} (hp : PassesOwn (model X.prog X.w) X.A X.env X.xe) (hc : X.calm = true) (hi : PI X tg iter (RdI (gx X) W mi)) (hg : PG X tg (gT X.K t)) (hb : PSs X body (RdS (gx X) W mb))
    (hs : ∀ x, foldedSetIterable iter X.env x = pure x) : PS X (.For tg iter body [] pos) (RdS (gx X) W fun ρ => bnd (mi ρ) fun q => fun st => forL q.2 st (fun x ρ => bnd (bind1 t x ρ) fun ρ' => mb ρ') q.1 ρ st) :=
  (ps_for hp hc hi hg hb hs).imp fun D σ H h => by
    obtain ⟨ρ, st, μ, en, sr, p⟩ := h
    refine ⟨ρ, st, μ, en, sr, ((Post.bnd p).wish fun c d H w => w σ).imp fun q μ1 st1 H1 s1 sr1 p1 J ok => ?_⟩
    obtain ⟨xs, gs⟩ := q
    let F : Val → Env → M (Flow × Env) := fun x ρ => bnd (bind1 t x ρ) fun ρ' => mb ρ'
    refine ⟨fun i n σ H => n = xs.length - i ∧ i ≤ xs.length ∧ ∃ ρ μ st, EnvOk (gx X) μ st H ρ σ ∧ SR (gx X) μ st H ∧ Step μ1 st1 H1 μ st H ∧ Post (gx X) (fun c d H' => ∀ σ', W c d σ' H') μ st H (forL gs st1 F (xs.drop i) ρ st) fun q μ' st' H' => FlowK (gx X) D q μ' st' H',
      ⟨xs.length, rfl, Nat.zero_le _, ρ, μ1, st1, en.step s1, sr1, .refl _ _ _, p1⟩, ?_⟩
    rintro i n σ H ⟨rfl, hi, ρ, μ, st, en, sr, s, p⟩
    by_cases hlt : i < xs.length
    · have p' : Post (gx X) (fun c d H' => ∀ σ', W c d σ' H') μ st H ((bnd (held gs st1) fun _ => bnd (F xs[i] ρ) fun q => match q.1 with
          | .nx => forL gs st1 F (xs.drop (i + 1)) q.2
          | .cnt => forL gs st1 F (xs.drop (i + 1)) q.2
          | .brk => ret (.nx, q.2)
          | .ret v => ret (.ret v, q.2)) st) fun q μ' st' H' => FlowK (gx X) D q μ' st' H' := by
        rw [List.drop_eq_getElem_cons hlt] at p
        exact p
      obtain ⟨hh, p'⟩ := Post.held p'
      obtain ⟨tn, _⟩ := ok.2 μ st H s.adv sr hh
      obtain ⟨go, yld⟩ := tn i _ (List.getElem?_eq_getElem hlt)
      refine .inr ⟨go, fun σ' H' => ∃ ρ μ st, EnvOk (gx X) μ st H' ρ σ' ∧ SR (gx X) μ st H' ∧ Step μ1 st1 H1 μ st H' ∧ Post (gx X) (fun c d H' => ∀ σ', W c d σ' H') μ st H' (forL gs st1 F (xs.drop (i + 1)) ρ st) fun q μ' st' H' => FlowK (gx X) D q μ' st' H',
        fun σ' H' w => ⟨xs.length - (i + 1), by omega, rfl, hlt, w⟩, fun x H' y => ?_⟩
      obtain ⟨g, rv⟩ := yld x H' y
      have p2 := Post.later g.step p'
      have en' := en.step g.step (μ' := μ) (st' := st)
      rcases bind1_res (t := t) (vv := xs[i]) (ρ := ρ) (st := st) with ⟨ρ', eb⟩ | eb
      · refine (gT_of (own := t.slots) en' rv eb fun σ2 en2 _ => ?_).2
        have p3 := p2
        unfold EV.bnd at p3
        have eF : F xs[i] ρ st = mb ρ' st := by
          show EV.bnd (bind1 t xs[i] ρ) (fun ρ' => mb ρ') st = _
          unfold EV.bnd
          rw [eb]
        rw [eF] at p3
        have p4 : Post (gx X) (fun c d H' => ∀ σ', W c d σ' H') μ st H' (EV.bnd (mb ρ') (fun q => match q.1 with
          | .nx => forL gs st1 F (xs.drop (i + 1)) q.2
          | .cnt => forL gs st1 F (xs.drop (i + 1)) q.2
          | .brk => ret (.nx, q.2)
          | .ret v => ret (.ret v, q.2)) st) fun q μ' st' H' => FlowK (gx X) D q μ' st' H' := p3
        refine ⟨ρ', st, μ, en2, sr.grown g, (Post.bnd p4).imp fun q μ5 st5 H5 s5 sr5 p5 => ?_⟩
        have tot : Step μ1 st1 H1 μ5 st5 H5 := (s.trans g.step).trans s5
        obtain ⟨f, ρ5⟩ := q
        cases f with
        | nx => exact fun σ5 en5 => ⟨ρ5, μ5, st5, en5, sr5, tot, p5⟩
        | cnt => exact fun σ5 en5 => ⟨ρ5, μ5, st5, en5, sr5, tot, p5⟩
        | brk => exact fun σ5 en5 => (Post.ok (a := (Flow.nx, ρ5)) sr5 p5 : ∀ σ', EnvOk (gx X) μ5 st5 H5 ρ5 σ' → D.nx σ' H5) σ5 en5
        | ret v => exact (Post.ok (a := (Flow.ret v, ρ5)) sr5 p5 : ∀ x, RV (gx X) μ5 st5 H5 v x → D.rt x H5)
      · exfalso
        have p3 := p2
        unfold EV.bnd at p3
        have eF : F xs[i] ρ st = .bad := by
          show EV.bnd (bind1 t xs[i] ρ) (fun ρ' => mb ρ') st = _
          unfold EV.bnd
          rw [eb]
        rw [eF] at p3
        exact p3.elim
    · have e : i = xs.length := by omega
      subst e
      rw [List.drop_length] at p
      obtain ⟨hh, p⟩ := Post.held p
      exact .inl ⟨(ok.2 μ st H s.adv sr hh).2, (Post.ok (a := (Flow.nx, ρ)) sr p : ∀ σ', EnvOk (gx X) μ st H ρ σ' → D.nx σ' H) σ en⟩
theorem whN_mono {c : Env → M Bool} {b : Env → M (Flow × Env)} : ∀ {n : Nat} {ρ : Env} {st : Sto} {r : Res (Flow × Env)}, whN c b n ρ st = some r → ∀ m, n ≤ m → whN c b m ρ st = some r
  | 0, _, _, _, h, _, _ => by cases h
  | n + 1, ρ, st, r, h, 0, hm => by omega
  | n + 1, ρ, st, r, h, m + 1, hm => by
    have hm' : n ≤ m := by omega
    unfold whN at h ⊢
    cases e : c ρ st with
    | ok k st' =>
      rw [e] at h
      cases k with
      | false => exact h
      | true =>
        simp only at h ⊢
        cases e2 : b ρ st' with
        | ok q st2 =>
          rw [e2] at h
          obtain ⟨f, ρ2⟩ := q
          cases f with
          | nx => exact whN_mono h m hm'
          | cnt => exact whN_mono h m hm'
          | brk => exact h
          | ret v => exact h
        | err x st2 => rw [e2] at h; exact h
        | bad => rw [e2] at h; exact h
    | err x st' => rw [e] at h; exact h
    | bad => rw [e] at h; exact h
theorem whl_eq {c : Env → M Bool} {b : Env → M (Flow × Env)} {n : Nat} {ρ : Env} {st : Sto} {r : Res (Flow × Env)} (h : whN c b n ρ st = some r) : whl c b ρ st = r := by
  unfold whl
  have ex : ∃ n r, whN c b n ρ st = some r := ⟨n, r, h⟩
  rw [dif_pos ex]
  have h1 := Classical.choose_spec (Classical.choose_spec ex)
  have h2 := whN_mono h1 (max n (Classical.choose ex)) (Nat.le_max_right _ _)
  have h3 := whN_mono h (max n (Classical.choose ex)) (Nat.le_max_left _ _)
  rw [h2] at h3
  exact Option.some.inj h3
theorem whl_bad {c : Env → M Bool} {b : Env → M (Flow × Env)} {ρ : Env} {st : Sto} : (∃ n r, whN c b n ρ st = some r) ∨ whl c b ρ st = .bad := by
  by_cases h : ∃ n r, whN c b n ρ st = some r
  · exact .inl h
  · refine .inr ?_
    unfold whl
    rw [dif_neg h]
theorem s_whl {c : Expr} {body : List Stmt} {mt : Env → M Val} (hp : PassesOwn (model X.prog X.w) X.A X.env X.xe) (hc : PT X c (RdT (gx X) W fun ρ => bnd (mt ρ) asBool)) (hb : PSs X body (RdS (gx X) W mb)) :
    PS X (.While c body [] pos) (RdS (gx X) W fun ρ => whl (fun ρ => bnd (mt ρ) asBool) (fun ρ => mb ρ) ρ) :=
  (ps_while hp hc hb).imp fun D σ H h => by
    obtain ⟨ρ, st, μ, en, sr, p⟩ := h
    let c' : Env → M Bool := fun ρ => bnd (mt ρ) asBool
    have p : Post (gx X) (fun c d H' => ∀ σ', W c d σ' H') μ st H (whl c' mb ρ st) _ := p
    rcases whl_bad (c := c') (b := mb) (ρ := ρ) (st := st) with ⟨n, r, e⟩ | e
    · rw [whl_eq e] at p
      refine ⟨fun n σ H => ∃ ρ μ st r, EnvOk (gx X) μ st H ρ σ ∧ SR (gx X) μ st H ∧ whN c' mb n ρ st = some r ∧ Post (gx X) (fun c d H' => ∀ σ', W c d σ' H') μ st H r fun q μ' st' H' => FlowK (gx X) D q μ' st' H', ⟨n, ρ, μ, st, r, en, sr, e, p⟩, ?_⟩
      rintro n σ H ⟨ρ, μ, st, r, en, sr, e, p⟩
      cases n with
      | zero => cases e
      | succ n =>
        unfold whN at e
        have k : Post (gx X) (fun c d H' => W c d σ H') μ st H (c' ρ st) fun b _ _ H' => if b = true then ∃ N : L2.St → Hp → Prop, (∀ σ' H', N σ' H' → ∃ m', m' < n + 1 ∧ ∃ ρ μ st r, EnvOk (gx X) μ st H' ρ σ' ∧ SR (gx X) μ st H' ∧ whN c' mb m' ρ st = some r ∧ Post (gx X) (fun c d H' => ∀ σ', W c d σ' H') μ st H' r fun q μ' st' H' => FlowK (gx X) D q μ' st' H') ∧
            RdS (gx X) W mb { D with nx := N, ct := N, bk := D.nx } σ H' else D.nx σ H' := by
          cases e1 : c' ρ st with
          | ok b st' =>
            rw [e1] at e
            intro μ1 H1 s1 sr1
            cases b with
            | false =>
              cases e
              exact (p μ1 H1 s1 sr1 : ∀ σ', EnvOk (gx X) μ1 st' H1 ρ σ' → D.nx σ' H1) σ (en.step s1)
            | true =>
              refine (show ∃ N : L2.St → Hp → Prop, _ from ?_)
              refine ⟨fun σ' H' => ∃ ρ μ st r, EnvOk (gx X) μ st H' ρ σ' ∧ SR (gx X) μ st H' ∧ whN c' mb n ρ st = some r ∧ Post (gx X) (fun c d H' => ∀ σ', W c d σ' H') μ st H' r fun q μ' st' H' => FlowK (gx X) D q μ' st' H', fun σ' H' w => ⟨n, Nat.lt_succ_self _, w⟩, ρ, st', μ1, en.step s1, sr1, ?_⟩
              have p := Post.later s1 (st' := st') p
              simp only at e
              cases e2 : mb ρ st' with
              | ok q st2 =>
                rw [e2] at e
                obtain ⟨f, ρ2⟩ := q
                intro μ2 H2 s2 sr2
                cases f with
                | nx => exact fun σ2 en2 => ⟨ρ2, μ2, st2, r, en2, sr2, e, p.later s2⟩
                | cnt => exact fun σ2 en2 => ⟨ρ2, μ2, st2, r, en2, sr2, e, p.later s2⟩
                | brk =>
                  cases e
                  exact (p μ2 H2 s2 sr2 : ∀ σ', EnvOk (gx X) μ2 st2 H2 ρ2 σ' → D.nx σ' H2)
                | ret v =>
                  cases e
                  exact (p μ2 H2 s2 sr2 : ∀ x, RV (gx X) μ2 st2 H2 v x → D.rt x H2)
              | err x st2 =>
                rw [e2] at e
                cases e
                exact p
              | bad =>
                rw [e2] at e
                cases e
                exact p
          | err x st' =>
            rw [e1] at e
            cases e
            exact Post.wish (k := fun q μ' st' H' => FlowK (gx X) D q μ' st' H') p fun c d H w => w σ
          | bad =>
            rw [e1] at e
            cases e
            exact p
        exact ⟨ρ, st, μ, en, sr, k⟩
    · rw [e] at p
      exact p.elim
end
end EV
end

section
set_option autoImplicit false
set_option linter.all false
set_option maxRecDepth 100000
set_option Elab.async false
/-! EvF: defs, and their calls. -/
namespace EV
open PySem PySem.Spec
open PyProof.Rows L2

/-- what a def promises -/
def spOf (G : Wd) (f : Fn) : Sp := fun vs H Q E => ∃ μ st args, SR G μ st H ∧ RVs G μ st H args vs ∧ Post G E μ st H (f args st) fun v μ' st' H' => ∀ x, RV G μ' st' H' v x → Q x H'
section
variable {G : Wd} {μ μ' : Loc_} {st st' : Sto} {H H' : Hp}
theorem RV.below {v : Val} {x : V} (h : RV G μ st H v x) : v.below st.length := by
  cases v with
  | ref n => exact h.1
  | _ => trivial
theorem RV.cut {v : Val} {x : V} {n : Nat} (h : RV G μ st H v x) (b : v.below n) (hn : n ≤ st.length) : RV G μ (st.take n) H v x := by
  cases v with
  | ref m => exact ⟨by rw [List.length_take]; exact Nat.lt_of_lt_of_le b (Nat.le_min.mpr ⟨Nat.le_refl _, hn⟩), h.2⟩
  | d y => exact h
  | err c fs => exact h
  | fn y => exact h
theorem paired_mem {α β : Type} {R S : α → β → Prop} {xs : List α} {ys : List β} (p : Paired R xs ys) (f : ∀ a ∈ xs, ∀ b, R a b → S a b) : Paired S xs ys := by
  induction p with
  | nil => exact .nil
  | @cons a b as bs r t ih => exact .cons (f _ List.mem_cons_self _ r) (ih fun x hx => f x (List.mem_cons_of_mem _ hx))
/-- the objects of a call are forgotten -/
theorem SR.cutBack (sr0 : SR G μ st H) (s : Step μ st H μ' st' H') (sr : SR G μ' st' H') (b : Back st st') : Step μ st H μ' (st'.take st.length) H' ∧ SR G μ' (st'.take st.length) H' := by
  have hl := s.len
  have get : ∀ (n : Nat) (c : Cell), (st'.take st.length)[n]? = some c → n < st.length ∧ st'[n]? = some c := fun n c e => by
    rw [List.getElem?_take] at e
    split at e
    · exact ⟨by assumption, e⟩
    · cases e
  have below : ∀ (n : Nat) (c : Cell), n < st.length → st'[n]? = some c → c.below st.length := fun n c hn e => by
    rcases b n c hn e with e0 | q
    · have ck := sr0.cell n c e0
      cases c with
      | lsv xs =>
        obtain ⟨vs, _, r⟩ := ck
        intro v hv
        have : ∀ {xs : List Val} {vs : List V}, RVs G μ st H xs vs → ∀ v ∈ xs, v.below st.length := by
          intro xs vs p
          induction p with
          | nil => intro v hv; exact nomatch hv
          | @cons a b as bs r t ih =>
            intro v hv
            rcases List.mem_cons.mp hv with rfl | hv
            · exact RV.below r
            · exact ih v hv
        exact this r v hv
      | dcv kvs =>
        obtain ⟨vs, _, r⟩ := ck
        have : ∀ {xs : List (Str × Val)} {vs : List (Key × V)}, Paired (fun (p : Str × Val) (q : Key × V) => q.1 = .inr p.1 ∧ RV G μ st H p.2 q.2) xs vs → ∀ p ∈ xs, p.2.below st.length := by
          intro xs vs p
          induction p with
          | nil => intro v hv; exact nomatch hv
          | @cons a b as bs r t ih =>
            intro v hv
            rcases List.mem_cons.mp hv with rfl | hv
            · exact RV.below r.2
            · exact ih v hv
        exact this r
      | _ => trivial
    · exact q
  refine ⟨⟨by rw [List.length_take]; exact Nat.le_min.mpr ⟨Nat.le_refl _, hl⟩, s.mu, s.fz, s.keep, s.there, fun n c e l => s.live n c (get n c e).2 l⟩, ⟨fun n c e => ?_, fun n m c c' e l e' l' q => sr.inj n m c c' (get n c e).2 l (get m c' e').2 l' q⟩⟩
  obtain ⟨hn, e'⟩ := get n c e
  have ck := sr.cell n c e'
  have bl := below n c hn e'
  cases c with
  | lst xs => exact ck
  | dct kvs => exact ck
  | lsv xs => obtain ⟨vs, q, r⟩ := ck; exact ⟨vs, q, paired_mem r fun a ha b r => r.cut (bl a ha) hl⟩
  | dcv kvs => obtain ⟨vs, q, r⟩ := ck; exact ⟨vs, q, paired_mem r fun a ha b r => ⟨r.1, r.2.cut (bl a ha) hl⟩⟩
  | fz x => exact ck
  | kl xs => exact ck
end
/-- a body's names at the entry -/
theorem start_env {G : Wd} {μ : Loc_} {st : Sto} {H : Hp} {args : List Val} {vs : List V} {N : List Str} {np ns : Nat} (hn : N.length = ns) (hl : args.length = np) (r : RVs G μ st H args vs) :
    EnvOk G μ st H (args.map some ++ List.replicate (ns - np) none) (L2.start N vs) := by
  have e := Paired.length r
  refine ⟨by unfold L2.start; simp [hn, ← e, hl], fun i v q => ?_⟩
  unfold L2.start
  have hi : i < args.length := by
    by_cases h : i < args.length
    · exact h
    · rw [List.getElem?_append_right (by simpa using h), List.getElem?_replicate] at q
      split at q <;> cases q
  rw [List.getElem?_append_left (by simpa using hi), List.getElem?_map] at q
  rw [List.getElem?_append_left (by simpa [← e] using hi), List.getElem?_map]
  have q' := List.getElem?_eq_getElem hi
  rw [q'] at q
  have q2 : args[i] = v := by simpa using q
  obtain ⟨x, e1, e2⟩ := paired_get r q'
  exact ⟨x, by rw [e1]; rfl, by rw [← q2]; exact e2⟩
theorem den_len {G : Wd} {C : Ctx} {np ns : Nat} {keep : Bool} {b : Ss} {vs : List V} {H : Hp} {Q : VK} {E : XK} (h : spOf G (den C np ns keep b) vs H Q E) : vs.length = np := by
  obtain ⟨μ, st, args, sr, r, p⟩ := h
  rw [← Paired.length r]
  unfold den at p
  split at p
  · assumption
  · exact p.elim
/-- a body keeps what its def promises -/
theorem den_body {G : Wd} {C : Ctx} {np ns : Nat} {keep : Bool} {b : Ss} {N : List Str} {vs : List V} {H : Hp} {Q : VK} {E : XK} (hn : N.length = ns) (h : spOf G (den C np ns keep b) vs H Q E) :
    RdS G (fun c d _ H' => E c d H') (exs C b) { nx := fun _ H' => Q .non H', rt := Q } (L2.start N vs) H := by
  obtain ⟨μ, st, args, sr, r, p⟩ := h
  unfold den at p
  split at p
  · rename_i hl
    refine ⟨_, st, μ, start_env hn hl r, sr, ?_⟩
    cases e : exs C b (args.map some ++ List.replicate (ns - np) none) st with
    | ok q st' =>
      rw [e] at p
      obtain ⟨f, ρ'⟩ := q
      intro μ' H' s sr'
      cases f with
      | nx =>
        intro σ _
        simp only at p
        unfold back at p
        split at p
        · rename_i hb
          obtain ⟨s2, sr2⟩ := sr.cutBack s sr' hb
          exact p μ' H' s2 sr2 .non (rf_none (G := G) (H := H'))
        · exact p.elim
      | brk => exact p.elim
      | cnt => exact p.elim
      | ret v =>
        intro x rx
        simp only at p
        split at p
        · exact p μ' H' s sr' x rx
        · cases v with
          | ref n => exact p.elim
          | _ =>
            simp only at p
            unfold back at p
            split at p
            · rename_i hb
              obtain ⟨s2, sr2⟩ := sr.cutBack s sr' hb
              exact p μ' H' s2 sr2 x rx
            · exact p.elim
    | err x st' =>
      rw [e] at p
      intro μ' H' cls dx s sr' er σ'
      simp only at p
      unfold back at p
      split at p
      · rename_i hb
        obtain ⟨s2, sr2⟩ := sr.cutBack s sr' hb
        exact p μ' H' cls dx s2 sr2 er
      · exact p.elim
    | bad =>
      rw [e] at p
      exact p.elim
  · exact p.elim
/-- a def that keeps the promise of fn, called by its name -/
def FnFact (X : Cx) (x : Str) (fn : Fn) : Prop :=
  ∃ (k : Nat) (f : Addr) (fd : FuncData) (ps : List Str), FnOk X.prog X.w X.K X.mg X.base (L2.CX X.prog X.w) k f fd ps (spOf (gx X) fn) ∧ Room k X.A ∧ X.mg x = some (.ref f) ∧ PySem.W.keepIn X.K (.ref f) = true ∧ Binds X.K fd ps []
section
variable {X : Cx} {C : Ctx} {W : WX} {e : Expr} {es : List Expr} {ms : Env → M (List Val)} {p pos : Pos} {x : Str} {fn : Fn} {j : Nat}
theorem call_rd {σ : L2.St} {H : Hp} {Q : VK} (hf : C.fs[j]? = some (x, fn)) (h : RdE (gx X) W (fun ρ => bnd (ms ρ) fun vs => bnd (opt (C.fs[j]?)) fun p => p.2 vs) σ H Q) : RdA (gx X) W ms σ H fun vs H1 => spOf (gx X) fn vs H1 Q fun c d H' => W c d σ H' := by
  rw [hf] at h
  obtain ⟨ρ, st, μ, en, sr, p⟩ := h
  exact ⟨ρ, st, μ, en, sr, (Post.bnd p).imp fun vs μ1 st1 H1 s1 sr1 p1 xs rx => ⟨μ1, st1, vs, sr1, rx, p1⟩⟩
theorem e_call (hf : C.fs[j]? = some (x, fn)) (F : FnFact X x fn) (hg : Gl X x) (tk : Takes X W) (hs : PA X (e :: es) (RdA (gx X) W ms)) (hdb : (x == ("__debug__" : Str)) = false) (he : starEach (e :: es) X.env = (false, eval e X.env) :: starEach es X.env)
    (hpl : (backTo pos (starEach es X.env)).any (·.1) = false) : PE X (.Call (.Name x p) (e :: es) [] pos) (RdE (gx X) W fun ρ => bnd (ms ρ) fun vs => bnd (opt (C.fs[j]?)) fun p => p.2 vs) := by
  obtain ⟨k, f, fd, ps, ok, room, hm, kp, bi⟩ := F
  refine (pe_callSD ok room hg hm kp bi .nil (fun σ => passAt tk σ) hs hdb he hpl).imp fun σ H Q h => ?_
  have := call_rd hf h
  show RdA (gx X) W ms σ H fun vs H1 => spOf (gx X) fn (vs ++ []) H1 Q fun c d H' => W c d σ H'
  simp only [List.append_nil]
  exact this
theorem e_call0 (hf : C.fs[j]? = some (x, fn)) (F : FnFact X x fn) (hg : Gl X x) (tk : Takes X W) (hdb : (x == ("__debug__" : Str)) = false) :
    PE X (.Call (.Name x p) [] [] pos) (RdE (gx X) W fun ρ => bnd (ret []) fun vs => bnd (opt (C.fs[j]?)) fun p => p.2 vs) := by
  obtain ⟨k, f, fd, ps, ok, room, hm, kp, bi⟩ := F
  refine ⟨fun pins s σ H Q I h => ?_⟩
  have h2 := call_rd (ms := fun _ => ret []) hf h
  obtain ⟨ρ, st, μ, en, sr, p⟩ := h2
  have h3 := Post.ok (a := ([] : List Val)) sr p [] .nil
  refine wpAny_Call_Name_kw (ld_glob I hg hm ?_ hdb)
  exact PySem.W.callWith_K0 I.kIn kp (run_fnSD (us := []) ok room bi .nil (passAt tk σ) I .nil h3)
end
end EV
end

section
set_option autoImplicit false
set_option linter.all false
set_option maxRecDepth 100000
set_option Elab.async false
/-! EvB1: built-in functions of one argument, by values. -/
namespace EV
open PySem PySem.Spec
open PyProof.Rows L2
section
variable {X : Cx}
def rB1 (G : Wd) (f : B1) : List V → Hp → VK → Prop := fun xs H Q => ∃ x d z, xs = [x] ∧ RT G H d x ∧ b1D f d = some z ∧ RawOut G H z Q
theorem len_dict {pins : List (Addr × Obj)} {σ : L2.St} {H : Hp} {s : Shared} {a : Addr} {kvs : List (Dt × Dt)} {Q : VK} (I : Inv X pins σ H s) (d : Dd X H a kvs) (q : Q (.int kvs.length) H) : wpAny (model X.prog X.w) X.A (call (.builtin "len") [.ref a]) (EP X pins σ Q) X.xe s := by
  obtain ⟨es, e, dj⟩ := d
  obtain ⟨hd, hz, o, ep, g1, g2, g3⟩ := raw_of I e
  have sz := dj.size
  have l63 := line63
  have hl : sizeLine = 16777216 := sizeLine_eq
  rcases dj with ⟨xs, h1, h2, h3⟩ | ⟨ys, h1, h2, h3, h4⟩
  · have hn : xs.length = kvs.length := (Paired.length h3).symm
    refine call_len_dictH (knd := nestedKind X.prog X.w) (d := a) (xs := xs) hd ⟨o, es, ep, g1, g2, g3, h1, fun z hz => ?_, h2⟩ (by omega) ?_
    · have all : ∀ {l : List (Dt × Dt)} {m : List (NestedKey × Addr × Value)}, JT (RF X.prog X.w X.K H) l m → ∀ z ∈ m, (nestedKind X.prog X.w).is s.heap z.1 z.2.1 := by
        intro l m p
        unfold JT at p
        induction p with
        | nil => intro z hz; exact nomatch hz
        | @cons p y ps ys h t ih =>
          intro z hz
          rcases List.mem_cons.mp hz with rfl | hz
          · obtain ⟨a1, a2, a3, _⟩ := h
            obtain ⟨_, ks', _, _, b3, b4⟩ := tupKey_ok a2
            have eq := Option.some.inj (a1.symm.trans b3)
            exact ⟨RF.nest I _ _ _ _ a1 a3 rfl, by rw [eq]; exact b4⟩
          · exact ih z hz
      exact all h3 z hz
    · rw [hn]
      exact ⟨.int _, H, I.tok _, ⟨_, rfl⟩, q⟩
  · have hn : ys.length = kvs.length := (Paired.length h4).symm
    refine call_len_dict (knd := mixKind X.prog X.w) (d := a) (kvs := ys) hd ⟨o, es, ep, g1, g2, g3, h1, h2, h3⟩ (by omega) ?_
    rw [hn]
    exact ⟨.int _, H, I.tok _, ⟨_, rfl⟩, q⟩
theorem cr_len : CallR X (.builtin "len") (rB1 (gx X) .len) := by
  rintro pins s σ H xs us Q I r ⟨x, d, z, rfl, rt, e, q⟩
  cases d with
  | str t =>
    have e' : (if fits t.length then some (PyData.int t.length) else none) = some z := e
    split at e'
    · rename_i hf
      cases e'
      have hx := rt.str
      subst hx
      exact call_len pins s σ H _ us Q I r ⟨_, _, rfl, ⟨fits_iff hf, rfl⟩, out_int q⟩
    · cases e'
  | list ds =>
    cases e
    obtain ⟨a, vs, rfl, h1, h2⟩ := rt.list
    exact call_len pins s σ H _ us Q I r ⟨_, vs.length, rfl, .inl ⟨vs, h1, rfl⟩, by rw [← h2.length]; exact out_int q⟩
  | tuple ds =>
    cases e
    obtain ⟨a, vs, rfl, h1, h2⟩ := rt.tuple
    exact call_len pins s σ H _ us Q I r ⟨_, vs.length, rfl, .inr ⟨vs, h1, rfl⟩, by rw [← h2.length]; exact out_int q⟩
  | dict kvs =>
    cases e
    obtain ⟨a, rfl, dd⟩ := rt.dd
    rw [Vals.ref1 r]
    exact len_dict I dd (out_int q)
  | _ => cases e
theorem cr_allB (hc : X.calm = true) : CallR X (.builtin "all") (rB1 (gx X) .all) := by
  rintro pins s σ H xs us Q I r ⟨x, d, z, rfl, rt, e, q⟩
  cases d with
  | list ds =>
    obtain ⟨bs, e1, rfl⟩ := Option.map_eq_some_iff.mp (show (boolsOf ds).map (fun bs => PyData.bool (bs.all id)) = some z from e)
    obtain ⟨a, vs, rfl, h1, h2⟩ := rt.list
    have := RFs.bools h2 e1
    subst this
    exact cr_all hc pins s σ H _ us Q I r ⟨a, bs, rfl, h1, out_bool q⟩
  | _ => cases e
theorem cr_anyB (hc : X.calm = true) : CallR X (.builtin "any") (rB1 (gx X) .any) := by
  rintro pins s σ H xs us Q I r ⟨x, d, z, rfl, rt, e, q⟩
  cases d with
  | list ds =>
    obtain ⟨bs, e1, rfl⟩ := Option.map_eq_some_iff.mp (show (boolsOf ds).map (fun bs => PyData.bool (bs.any id)) = some z from e)
    obtain ⟨a, vs, rfl, h1, h2⟩ := rt.list
    have := RFs.bools h2 e1
    subst this
    exact cr_any hc pins s σ H _ us Q I r ⟨a, bs, rfl, h1, out_bool q⟩
  | _ => cases e
theorem cr_sumB (hc : X.calm = true) : CallR X (.builtin "sum") (rB1 (gx X) .sum) := by
  rintro pins s σ H xs us Q I r ⟨x, d, z, rfl, rt, e, q⟩
  cases d with
  | list ds =>
    obtain ⟨ns, e1, rfl⟩ := Option.map_eq_some_iff.mp (show (intsOf ds).map (fun ns => PyData.int ns.sum) = some z from e)
    obtain ⟨a, vs, rfl, h1, h2⟩ := rt.list
    have := (RFs.ints h2 e1).1
    subst this
    exact cr_sum hc pins s σ H _ us Q I r ⟨a, ns, rfl, h1, out_int q⟩
  | _ => cases e
theorem cr_absB : CallR X (.builtin "abs") (rB1 (gx X) .abs) := by
  rintro pins s σ H xs us Q I r ⟨x, d, z, rfl, rt, e, q⟩
  cases d with
  | int i =>
    cases e
    have := rt.int
    subst this
    exact call_abs pins s σ H _ us Q I r ⟨i, rfl, out_int q⟩
  | _ => cases e
theorem cr_intB : CallR X (.type "int") (rB1 (gx X) .int) := by
  rintro pins s σ H xs us Q I r ⟨x, d, z, rfl, rt, e, q⟩
  cases d with
  | int i =>
    cases e
    have := rt.int
    subst this
    exact call_int1 pins s σ H _ us Q I r (.inl ⟨i, rfl, out_int q⟩)
  | bool b =>
    cases e
    have := rt.bool
    subst this
    exact call_int1 pins s σ H _ us Q I r (.inr ⟨b, rfl, out_int q⟩)
  | _ => cases e
/-- the keys, the values of a dict as a list of them -/
theorem dj_keys {P : Program} {w : World} {K : PySem.W.Frag} {H : Hp} {kvs : List (Dt × Dt)} {es : Array DictEntry} (dj : Dj P w (RF P w K H) kvs es) {acc : Array Value} (it : ItemsOf (fun i v => ∃ hi : i < es.size, v = es[i].key) acc es.size) :
    ∃ vs, RFs P w K H (kvs.map (·.1)) vs ∧ Vals vs acc.toList := by
  have sz := dj.size
  have f : ∀ i, i < kvs.length → ∃ x v, acc.toList[i]? = some v ∧ RelV x v ∧ ∃ p, kvs[i]? = some p ∧ RF P w K H p.1 x := fun i hi => by
    have h1 : i < acc.size := by rw [it.1, sz]; exact hi
    have h2 : i < es.size := by rw [sz]; exact hi
    obtain ⟨_, e⟩ := it.2 i _ (Array.getElem?_eq_getElem h1)
    obtain ⟨p, x, y, a1, a2, a3, _⟩ := dj.at (Array.getElem?_eq_getElem h2)
    exact ⟨x, acc[i], by simp [h1], by rw [e]; exact a3, p, a1, a2⟩
  refine ⟨(List.range kvs.length).attach.map fun i => (f i.1 (List.mem_range.mp i.2)).choose, RFs.of_get (by simp) fun i d v e1 e2 => ?_, vals_of_at (by simp [it.1, sz]) fun i x u e1 e2 => ?_⟩
  · rw [List.getElem?_map] at e1
    obtain ⟨p, e3, rfl⟩ := Option.map_eq_some_iff.mp e1
    have hi : i < kvs.length := (List.getElem?_eq_some_iff.mp e3).1
    rw [List.getElem?_map] at e2
    obtain ⟨j, e4, rfl⟩ := Option.map_eq_some_iff.mp e2
    have e5 : j.1 = i := by
      have := congrArg (Option.map Subtype.val) e4
      rw [← List.getElem?_map, List.attach_map_subtype_val, List.getElem?_range hi] at this
      simpa using this.symm
    obtain ⟨v, _, _, p', q1, q2⟩ := (f j.1 (List.mem_range.mp j.2)).choose_spec
    rw [e5, e3] at q1
    cases q1
    exact q2
  · rw [List.getElem?_map] at e1
    obtain ⟨j, e4, rfl⟩ := Option.map_eq_some_iff.mp e1
    have hi : i < kvs.length := by
      have := (List.getElem?_eq_some_iff.mp e4).1
      simpa using this
    have e5 : j.1 = i := by
      have := congrArg (Option.map Subtype.val) e4
      rw [← List.getElem?_map, List.attach_map_subtype_val, List.getElem?_range hi] at this
      simpa using this.symm
    obtain ⟨v, q0, q1, _⟩ := (f j.1 (List.mem_range.mp j.2)).choose_spec
    rw [e5, e2] at q0
    cases q0
    exact q1
theorem dj_vals {P : Program} {w : World} {K : PySem.W.Frag} {H : Hp} {kvs : List (Dt × Dt)} {es : Array DictEntry} (dj : Dj P w (RF P w K H) kvs es) {acc : Array Value} (it : ItemsOf (fun i v => ∃ hi : i < es.size, v = es[i].val) acc es.size) :
    ∃ vs, RFs P w K H (kvs.map (·.2)) vs ∧ Vals vs acc.toList := by
  have sz := dj.size
  have f : ∀ i, i < kvs.length → ∃ x v, acc.toList[i]? = some v ∧ RelV x v ∧ ∃ p, kvs[i]? = some p ∧ RF P w K H p.2 x := fun i hi => by
    have h1 : i < acc.size := by rw [it.1, sz]; exact hi
    have h2 : i < es.size := by rw [sz]; exact hi
    obtain ⟨_, e⟩ := it.2 i _ (Array.getElem?_eq_getElem h1)
    obtain ⟨p, x, y, a1, a2, a3, a4, a5⟩ := dj.at (Array.getElem?_eq_getElem h2)
    exact ⟨y, acc[i], by simp [h1], by rw [e]; exact a5, p, a1, a4⟩
  refine ⟨(List.range kvs.length).attach.map fun i => (f i.1 (List.mem_range.mp i.2)).choose, RFs.of_get (by simp) fun i d v e1 e2 => ?_, vals_of_at (by simp [it.1, sz]) fun i x u e1 e2 => ?_⟩
  · rw [List.getElem?_map] at e1
    obtain ⟨p, e3, rfl⟩ := Option.map_eq_some_iff.mp e1
    have hi : i < kvs.length := (List.getElem?_eq_some_iff.mp e3).1
    rw [List.getElem?_map] at e2
    obtain ⟨j, e4, rfl⟩ := Option.map_eq_some_iff.mp e2
    have e5 : j.1 = i := by
      have := congrArg (Option.map Subtype.val) e4
      rw [← List.getElem?_map, List.attach_map_subtype_val, List.getElem?_range hi] at this
      simpa using this.symm
    obtain ⟨v, _, _, p', q1, q2⟩ := (f j.1 (List.mem_range.mp j.2)).choose_spec
    rw [e5, e3] at q1
    cases q1
    exact q2
  · rw [List.getElem?_map] at e1
    obtain ⟨j, e4, rfl⟩ := Option.map_eq_some_iff.mp e1
    have hi : i < kvs.length := by
      have := (List.getElem?_eq_some_iff.mp e4).1
      simpa using this
    have e5 : j.1 = i := by
      have := congrArg (Option.map Subtype.val) e4
      rw [← List.getElem?_map, List.attach_map_subtype_val, List.getElem?_range hi] at this
      simpa using this.symm
    obtain ⟨v, q0, q1, _⟩ := (f j.1 (List.mem_range.mp j.2)).choose_spec
    rw [e5, e2] at q0
    cases q0
    exact q1
theorem cr_listB (hc : X.calm = true) : CallR X (.type "list") (rB1 (gx X) .list) := by
  rintro pins s σ H xs us Q I r ⟨x, d, z, rfl, rt, e, q⟩
  cases d with
  | list ds =>
    cases e
    obtain ⟨a, vs, rfl, h1, h2⟩ := rt.list
    exact call_list_of pins s σ H _ us Q I r ⟨a, vs, rfl, (.inl h1), fun l hl => q H l vs (.refl _) hl h2⟩
  | tuple ds =>
    cases e
    obtain ⟨a, vs, rfl, h1, h2⟩ := rt.tuple
    exact call_list_of pins s σ H _ us Q I r ⟨a, vs, rfl, .inr h1, fun l hl => q H l vs (.refl _) hl h2⟩
  | dict kvs =>
    cases e
    obtain ⟨a, rfl, es, e1, dj⟩ := rt.dd
    rw [Vals.ref1 r]
    obtain ⟨hd, hz, o, ep, g1, g2, g3⟩ := raw_of I e1
    refine PySem.W.kdl_call (KdlSrc.rawDict (es := es) (ep := ep) hd) (I.ok.hd hc) ⟨o, g1, g2, g3⟩ hz fun h' tk acc c' kp e2 it => ?_
    obtain ⟨vs, rs, rv⟩ := dj_keys dj it
    have hn : H s.heap.objs.size = none := I.hok.fresh (Nat.le_refl _)
    refine ⟨.ref s.heap.objs.size, _, I.laid (t' := tk) (o := .lst vs) kp (Nat.le_refl _) (show ObjOk X.prog X.w _ _ _ (.lst vs) from ⟨?_, acc.toList, c', rv, by rw [Array.toArray_toList]; exact e2⟩), rfl, q H _ vs (.refl _) hn rs⟩
    rw [← rs.length, List.length_map, ← dj.size]
    exact hz
  | _ => cases e
theorem cr_tupleB : CallR X (.type "tuple") (rB1 (gx X) .tuple) := by
  rintro pins s σ H xs us Q I r ⟨x, d, z, rfl, rt, e, q⟩
  cases d with
  | list ds =>
    cases e
    obtain ⟨a, vs, rfl, h1, h2⟩ := rt.list
    exact call_tuple_of pins s σ H _ us Q I r ⟨a, vs, rfl, .inl ⟨h1, fun l hl => out_tupN hl h2 q⟩⟩
  | tuple ds =>
    cases e
    obtain ⟨a, vs, rfl, h1, h2⟩ := rt.tuple
    exact call_tuple_of pins s σ H _ us Q I r ⟨a, vs, rfl, .inr ⟨h1, out_tup h1 h2 q⟩⟩
  | _ => cases e
theorem greatest_eq {ns : List Int} {m : Int} (h1 : m ∈ ns) (h2 : ∀ y ∈ ns, y ≤ m) : greatest ns = some m := by
  have key : ∀ (l : List Int) (a : Int), (∀ y ∈ a :: l, y ≤ m) → (m ∈ a :: l) → l.foldl (fun a b => if b > a then b else a) a = m := by
    intro l
    induction l with
    | nil => intro a _ hm; exact (List.mem_singleton.mp hm).symm
    | cons b l ih =>
      intro a hb hm
      rw [List.foldl_cons]
      by_cases c : b > a
      · rw [if_pos c]
        refine ih b (fun y hy => hb y (List.mem_cons_of_mem _ hy)) ?_
        rcases List.mem_cons.mp hm with rfl | hm
        · have := hb b (by simp); omega
        · exact hm
      · rw [if_neg c]
        refine ih a (fun y hy => hb y ?_) ?_
        · rcases List.mem_cons.mp hy with rfl | hy
          · simp
          · simp [hy]
        · rcases List.mem_cons.mp hm with rfl | hm
          · simp
          · rcases List.mem_cons.mp hm with rfl | hm
            · have := hb a (by simp); have : a = m := by omega
              simp [this]
            · simp [hm]
  cases ns with
  | nil => cases h1
  | cons a l => exact congrArg some (key l a h2 h1)
theorem least_eq {ns : List Int} {m : Int} (h1 : m ∈ ns) (h2 : ∀ y ∈ ns, m ≤ y) : least ns = some m := by
  have key : ∀ (l : List Int) (a : Int), (∀ y ∈ a :: l, m ≤ y) → (m ∈ a :: l) → l.foldl (fun a b => if b < a then b else a) a = m := by
    intro l
    induction l with
    | nil => intro a _ hm; exact (List.mem_singleton.mp hm).symm
    | cons b l ih =>
      intro a hb hm
      rw [List.foldl_cons]
      by_cases c : b < a
      · rw [if_pos c]
        refine ih b (fun y hy => hb y (List.mem_cons_of_mem _ hy)) ?_
        rcases List.mem_cons.mp hm with rfl | hm
        · have := hb b (by simp); omega
        · exact hm
      · rw [if_neg c]
        refine ih a (fun y hy => hb y ?_) ?_
        · rcases List.mem_cons.mp hy with rfl | hy
          · simp
          · simp [hy]
        · rcases List.mem_cons.mp hm with rfl | hm
          · simp
          · rcases List.mem_cons.mp hm with rfl | hm
            · have := hb a (by simp); have : a = m := by omega
              simp [this]
            · simp [hm]
  cases ns with
  | nil => cases h1
  | cons a l => exact congrArg some (key l a h2 h1)
theorem cr_maxB (hc : X.calm = true) : CallR X (.builtin "max") (rB1 (gx X) .max) := by
  rintro pins s σ H xs us Q I r ⟨x, d, z, rfl, rt, e, q⟩
  cases d with
  | list ds =>
    obtain ⟨n, e1, rfl⟩ := Option.map_eq_some_iff.mp (show ((intsOf ds).bind greatest).map PyData.int = some z from e)
    obtain ⟨ns, e2, e3⟩ := Option.bind_eq_some_iff.mp e1
    obtain ⟨a, vs, rfl, h1, h2⟩ := rt.list
    have := (RFs.ints h2 e2).1
    subst this
    refine cr_max hc pins s σ H _ us Q I r ⟨a, ns, rfl, h1, ?_, fun m m1 m2 => ?_⟩
    · cases ns with
      | nil => cases e3
      | cons _ _ => simp
    · rw [greatest_eq m1 m2] at e3
      cases e3
      exact out_int q
  | _ => cases e
theorem cr_minB (hc : X.calm = true) : CallR X (.builtin "min") (rB1 (gx X) .min) := by
  rintro pins s σ H xs us Q I r ⟨x, d, z, rfl, rt, e, q⟩
  cases d with
  | list ds =>
    obtain ⟨n, e1, rfl⟩ := Option.map_eq_some_iff.mp (show ((intsOf ds).bind least).map PyData.int = some z from e)
    obtain ⟨ns, e2, e3⟩ := Option.bind_eq_some_iff.mp e1
    obtain ⟨a, vs, rfl, h1, h2⟩ := rt.list
    have := (RFs.ints h2 e2).1
    subst this
    refine cr_min hc pins s σ H _ us Q I r ⟨a, ns, rfl, h1, ?_, fun m m1 m2 => ?_⟩
    · cases ns with
      | nil => cases e3
      | cons _ _ => simp
    · rw [least_eq m1 m2] at e3
      cases e3
      exact out_int q
  | _ => cases e
end
end EV
end

section
set_option autoImplicit false
set_option linter.all false
set_option maxRecDepth 100000
set_option Elab.async false
/-! EvB2: sorted. -/
namespace EV
open PySem PySem.Spec
open PyProof.Rows L2
mutual
theorem reads_lt {h : Heap} : ∀ (d : Dt) (v : Value) (as : List Addr), d.canLay0 = true → Reads h v d as → ∀ a ∈ as, a < h.objs.size
  | .none, _, _, _, r, a, ha => by cases r; exact nomatch ha
  | .bool _, _, _, _, r, a, ha => by cases r; exact nomatch ha
  | .int _, _, _, _, r, a, ha => by cases r; exact nomatch ha
  | .str _, _, _, _, r, a, ha => by cases r; exact nomatch ha
  | .list ds, _, _, c, r, a, ha => by
    cases r with
    | list h1 h2 h3 h4 =>
      rcases List.mem_cons.mp ha with rfl | ha
      · exact Heap.lt_size h1
      · exact readsAll_lt ds _ _ (by simpa [PyData.canLay0] using c) h4 a ha
  | .tuple ds, _, _, c, r, a, ha => by
    cases r with
    | tuple h1 h2 h3 h4 => exact readsAll_lt ds _ _ (by simpa [PyData.canLay0] using c) h4 a ha
  | .dict _, _, _, c, _, _, _ => by simp [PyData.canLay0] at c
theorem readsAll_lt {h : Heap} : ∀ (ds : List Dt) (vs : List Value) (as : List Addr), PyData.canLayAll0 ds = true → ReadsAll h vs ds as → ∀ a ∈ as, a < h.objs.size
  | [], _, _, _, r, a, ha => by cases r; exact nomatch ha
  | d :: ds, _, _, c, r, a, ha => by
    have c' : d.canLay0 = true ∧ PyData.canLayAll0 ds = true := by simpa [PyData.canLayAll0] using c
    cases r with
    | cons h1 h2 =>
      rcases List.mem_append.mp ha with ha | ha
      · exact reads_lt d _ _ c'.1 h1 a ha
      · exact readsAll_lt ds _ _ c'.2 h2 a ha
end
section
variable {X : Cx} {pins : List (Addr × Obj)} {σ : L2.St} {H : Hp}
theorem each_of {R : Value → Dt → Prop} : ∀ {ds : List Dt} {xs : List V} {vs : List Value}, RFs X.prog X.w X.K H ds xs → Vals xs vs → (∀ d ∈ ds, ∀ x v, RF X.prog X.w X.K H d x → RelV x v → R v d) → PySem.W.EachIs R vs ds
  | [], _, _, r, q, _ => by rw [RFs] at r; subst r; cases q; exact .nil
  | d :: ds, _, _, r, q, f => by
    rw [RFs] at r
    obtain ⟨x, r', rfl, r1, r2⟩ := r
    cases q with
    | cons q1 q2 => exact .cons (f d List.mem_cons_self _ _ r1 q1) (each_of r2 q2 fun d hd => f d (List.mem_cons_of_mem _ hd))
theorem of_each : ∀ {ds : List Dt} {vs : List Value}, PySem.W.EachIs (fun v d => ∃ x, RF X.prog X.w X.K H d x ∧ RelV x v) vs ds → ∃ xs, RFs X.prog X.w X.K H ds xs ∧ Vals xs vs
  | [], _, h => by cases h; exact ⟨[], RFs.nil, .nil⟩
  | d :: ds, _, h => by
    cases h with
    | cons h1 h2 =>
      obtain ⟨x, r, q⟩ := h1
      obtain ⟨xs, rs, qs⟩ := of_each h2
      exact ⟨x :: xs, RFs.cons r rs, .cons q qs⟩
theorem sorted_gen {s : Shared} {u : Value} {ds out : List Dt} {Q : VK} (hu : X.A.units + 70 < cLine) (e : sortD ds = some out) (hz : ds.length ≤ sizeLine)
    (col : ∀ E : Value → Shared → Prop, wpAny (model X.prog X.w) X.A.in1 (collect u) (fun vs s1 => ∃ xs, Inv X pins σ H s1 ∧ Vals xs vs ∧ RFs X.prog X.w X.K H ds xs) E s) (q : RawOut (gx X) H (.list out) Q) :
    wpAny (model X.prog X.w) X.A (call (.builtin "sorted") [u]) (EP X pins σ Q) X.xe s := by
  unfold sortD at e
  split at e
  · rename_i hc
    cases e
    simp only [Bool.and_eq_true] at hc
    obtain ⟨⟨ha, hs⟩, hd⟩ := hc
    have hal : PySem.W.AllAlike (ds.map id) := by
      rw [List.map_id]
      intro d h1 d' h2
      exact List.all_eq_true.mp (List.all_eq_true.mp ha d h1) d' h2
    have hso : PySem.W.Sortable (ds.map id) := by
      rw [List.map_id]
      unfold sortable at hs
      rw [Bool.or_eq_true] at hs
      rcases hs with hs | hs
      · refine .inl fun d h1 => ?_
        have := List.all_eq_true.mp hs d h1
        split at this
        · exact ⟨_, _, rfl⟩
        · cases this
      · refine .inr fun d h1 => ?_
        have := List.all_eq_true.mp hs d h1
        split at this
        · cases this
        · cases this
        · rename_i n1 n2
          exact ⟨n1, n2⟩
    have hdp : ∀ d ∈ ds, d.canLay0 = true ∧ d.depth ≤ 60 := fun d h1 => by
      have := List.all_eq_true.mp hd d h1
      rw [Bool.and_eq_true, decide_eq_true_eq] at this
      exact this
    refine Calls.call_function_entry PyProof.Rows.kind_sorted PyProof.Rows.plain_sorted PyProof.Rows.entry_sorted (PyProof.Rows.args_sorted1 _) ?_
    unfold Builtin.«sorted»
    refine wpAny_bind (m := checkCount "sorted" 1 1 _) (wpAny_pure ?_)
    refine wpAny_bind (wpAny_mono (col _) (fun vs s1 ⟨xs, I1, rv, rs⟩ => ?_) fun _ _ x => x)
    have hl : vs.length = ds.length := by rw [rs.length, rv.length]
    refine wpAny_bind (wpAny_newList ?_ (by rw [hl]; exact hz))
    have at_ : (s1.heap.push { cls := .type "list", data := .seq vs.toArray }).get? s1.heap.objs.size = some (seqObj "list" vs.toArray 0) := Heap.get?_push_size _ rfl
    have er : PySem.W.EachIs (fun v d => ∃ as, Reads (s1.heap.push { cls := .type "list", data := .seq vs.toArray }) v (id d) as ∧ s1.heap.objs.size ∉ as) vs ds := each_of rs rv fun d hd x v r1 r2 => by
      obtain ⟨as, rd⟩ := Dp.reads I1 d x v (RF.dp d x (hdp d hd).1 r1) r2
      refine ⟨as, PyProof.Rows.Reads.keeps (fun _ _ z => Heap.get?_push_of_some _ z) rd, fun z => ?_⟩
      exact absurd (reads_lt d v as (hdp d hd).1 rd _ z) (Nat.lt_irrefl _)
    have srt := PySem.W.list_sort_data (prog := X.prog) (w := X.w) (A := X.A.in1) (E := X.xe) (s := { s1 with heap := s1.heap.push { cls := .type "list", data := .seq vs.toArray } }) (a := s1.heap.objs.size) (n := 0) (enc := id) (R := fun v d => ∃ x, RF X.prog X.w X.K H d x ∧ RelV x v)
      (Q := fun r s2 => EP X pins σ Q (.ref s1.heap.objs.size) s2) at_ (each_of rs rv fun d _ x v r1 r2 => ⟨x, r1, r2⟩) er hal hso hz (fun d hd => by have := (hdp d hd).2; show X.A.units + 1 + 1 + d.depth < cLine; omega) fun outv ho ev => ?_
    · refine wpAny_bind (wpAny_holding (wpAny_mono srt (fun r s2 hq => ?_) fun _ _ x => x))
      exact wpAny_pure ⟨_, rfl, hq⟩
    · obtain ⟨xs', rs', rv'⟩ := of_each ev
      obtain ⟨c, hc⟩ := PyProof.Rows.sortedHeap_at (vs := vs) (out := outv.toArray) at_
      have hn : H s1.heap.objs.size = none := I1.hok.fresh (Nat.le_refl _)
      have hlen : xs'.length ≤ sizeLine := by rw [rv'.length, ho]; exact hz
      refine ⟨.ref s1.heap.objs.size, _, I1.laid (t' := s1.toks) (o := .lst xs') (fun b o eb => ?_) (Nat.le_refl _) (show ObjOk X.prog X.w _ _ _ (.lst xs') from ⟨hlen, outv, c, rv', hc⟩), rfl, q H _ xs' (.refl _) hn rs'⟩
      have hb : b < s1.heap.objs.size := Heap.lt_size eb
      rw [PyProof.Rows.sortedHeap_old (Nat.ne_of_lt hb) (by rw [size_push']; exact Nat.lt_succ_of_lt hb)]
      exact Heap.get?_push_of_some _ eb
  · cases e
theorem cr_sortedB (hc : X.calm = true) (hu : X.A.units + 70 < cLine) : CallR X (.builtin "sorted") (rB1 (gx X) .sorted) := by
  rintro pins s σ H xs us Q I r ⟨x, d, z, rfl, rt, e, q⟩
  cases d with
  | list ds =>
    obtain ⟨out, e1, rfl⟩ := Option.map_eq_some_iff.mp (show (sortD ds).map PyData.list = some z from e)
    obtain ⟨a, vs, rfl, h1, h2⟩ := rt.list
    rw [Vals.ref1 r]
    obtain ⟨hz, its, n, o, rv, hl, g, g1, g2, g3⟩ := Inv.rdl I h1
    refine sorted_gen hu e1 (by rw [h2.length]; exact hz) (fun E => ?_) q
    exact wpAny_collect_seq a (.inl rfl) g g1 g3 (fun h' hk => ⟨vs, I.kept (t' := s.toks) hk, by simpa using rv, h2⟩) (by rw [List.size_toArray, ← hl]; exact hz)
  | tuple ds =>
    obtain ⟨out, e1, rfl⟩ := Option.map_eq_some_iff.mp (show (sortD ds).map PyData.list = some z from e)
    obtain ⟨a, vs, rfl, h1, h2⟩ := rt.tuple
    rw [Vals.ref1 r]
    obtain ⟨its, rv, ⟨o, g1, g2, n, g3⟩, hz⟩ := I.tuple h1
    refine sorted_gen hu e1 (by rw [h2.length]; exact hz) (fun E => ?_) q
    exact wpAny_collect_seq a (.inr rfl) g1 g2 g3 (fun h' hk => ⟨vs, I.kept (t' := s.toks) hk, by simpa using rv, h2⟩) (by rw [List.size_toArray, ← rv.length]; exact hz)
  | dict kvs =>
    obtain ⟨out, e1, rfl⟩ := Option.map_eq_some_iff.mp (show (sortD (kvs.map (·.1))).map PyData.list = some z from e)
    obtain ⟨a, rfl, es, g, dj⟩ := rt.dd
    rw [Vals.ref1 r]
    obtain ⟨hd, hz, o, ep, g1, g2, g3⟩ := raw_of I g
    refine sorted_gen hu e1 (by rw [List.length_map, ← dj.size]; exact hz) (fun E => ?_) q
    refine PySem.W.kdu_collect (KdlSrc.rawDict (es := es) (ep := ep) hd) (show X.A.in1.handled = none from I.ok.hd hc) ⟨o, g1, g2, g3⟩ hz fun h' tk acc kp it => ?_
    obtain ⟨vs, rs, rv⟩ := dj_keys dj it
    exact ⟨vs, I.kept kp, rv, rs⟩
  | _ => cases e
end
end EV
end

section
set_option autoImplicit false
set_option linter.all false
set_option maxRecDepth 100000
set_option Elab.async false
/-! EvB3: calls of built-in functions, isinstance. -/
namespace EV
open PySem PySem.Spec
open PyProof.Rows
open L2
section
variable {G : Wd} {W : Value → Option Addr → Hp → Prop} {μ : Loc_} {st : Sto} {H : Hp}
/-- one argument -/
theorem Post.arg1 {α : Type} {m : M Val} {f : Val → M α} {k : α → Loc_ → Sto → Hp → Prop} {k' : List Val → Loc_ → Sto → Hp → Prop} (p : Post G W μ st H (EV.bnd m f st) k)
    (g : ∀ v μ' st' H', Step μ st H μ' st' H' → SR G μ' st' H' → Post G W μ' st' H' (f v st') k → k' [v] μ' st' H') : Post G W μ st H (EV.bnd m (fun v => EV.bnd (EV.ret []) fun vs => EV.ret (v :: vs)) st) k' := by
  have q := Post.bnd p
  unfold EV.bnd
  cases e : m st with
  | ok v st' =>
    rw [e] at q
    exact fun μ' H' s sr => g v μ' st' H' s sr (q μ' H' s sr)
  | err x st' => rw [e] at q; exact q
  | bad => rw [e] at q; exact q.elim
theorem Post.arg2 {α : Type} {m n : M Val} {f : Val → Val → M α} {k : α → Loc_ → Sto → Hp → Prop} {k' : List Val → Loc_ → Sto → Hp → Prop} (p : Post G W μ st H (EV.bnd m (fun v => EV.bnd n fun w => f v w) st) k)
    (g : ∀ v w μ' st' H', Step μ st H μ' st' H' → SR G μ' st' H' → Post G W μ' st' H' (f v w st') k → k' [v, w] μ' st' H') :
    Post G W μ st H (EV.bnd m (fun v => EV.bnd (EV.bnd n fun w => EV.bnd (EV.ret []) fun vs => EV.ret (w :: vs)) fun vs => EV.ret (v :: vs)) st) k' := by
  have q := Post.bnd p
  unfold EV.bnd
  cases e : m st with
  | ok v st' =>
    rw [e] at q
    simp only
    cases e2 : n st' with
    | ok w st2 =>
      intro μ2 H2 s sr
      have p2 := Post.known p
      have : Post G W μ st H (f v w st2) k := by
        have p3 := p
        unfold EV.bnd at p3
        rw [e] at p3
        simp only at p3
        rw [e2] at p3
        exact p3
      exact g v w μ2 st2 H2 s sr (Post.later s this)
    | err x st2 =>
      have p3 := p
      unfold EV.bnd at p3
      rw [e] at p3
      simp only at p3
      rw [e2] at p3
      exact p3
    | bad =>
      have p3 := p
      unfold EV.bnd at p3
      rw [e] at p3
      simp only at p3
      rw [e2] at p3
      exact p3
  | err x st' => rw [e] at q; exact q
  | bad => rw [e] at q; exact q.elim
end
section
variable {X : Cx} {C : Ctx} {W : WX} {a b : Expr} {ma mb : Env → M Val} {pos pf : Pos} {x : Str} {id T : String}
theorem b1_rd {f : B1} {m : Nat} {σ : L2.St} {H : Hp} {Q : VK} (h : RdE (gx X) W (fun ρ => bnd (ma ρ) fun v => bnd (dat v) fun x => bnd (opt (b1D f x)) fun z => fresh m z) σ H Q) :
    RdA (gx X) W (fun ρ => bnd (ma ρ) fun v => bnd (ret []) fun vs => ret (v :: vs)) σ H fun vs H1 => rB1 (gx X) f vs H1 (restR Q) := by
  obtain ⟨ρ, st, μ, en, sr, p⟩ := h
  refine ⟨ρ, st, μ, en, sr, Post.arg1 p fun v μ1 st1 H1 s1 sr1 q1 xs rx => ?_⟩
  cases rx with
  | cons r1 r2 =>
    cases r2
    obtain ⟨d, e, q1⟩ := q1.dat
    obtain ⟨z, e2, q1⟩ := q1.opt
    exact ⟨_, d, z, rfl, sr1.look r1 e, e2, raw_fresh sr1 q1⟩
theorem e_b1 {f : B1} {m : Nat} (hc : CallR X (.builtin id) (rB1 (gx X) f)) (hg : Gl X x) (hm : X.mg x = none) (hv : bootBuiltins x = some (.builtin id)) (ha : PE X a (RdE (gx X) W ma)) (hn : x ≠ "__name__") (hdb : (x == ("__debug__" : Str)) = false)
    (he : starEach [a] X.env = (false, eval a X.env) :: starEach [] X.env) (hpl : (backTo pos (starEach [] X.env)).any (·.1) = false) :
    PE X (.Call (.Name x pf) [a] [] pos) (RdE (gx X) W fun ρ => bnd (ma ρ) fun v => bnd (dat v) fun x => bnd (opt (b1D f x)) fun z => fresh m z) :=
  (pe_callB hc hg hm hv (a_cons ha a_nil he) hn hdb he hpl).restR.imp fun σ H Q h => b1_rd h
theorem e_b1t {f : B1} {m : Nat} (hc : CallR X (.type T) (rB1 (gx X) f)) (hg : Gl X x) (hm : X.mg x = none) (hv : bootBuiltins x = some (.type T)) (ha : PE X a (RdE (gx X) W ma)) (hn : x ≠ "__name__") (hdb : (x == ("__debug__" : Str)) = false)
    (he : starEach [a] X.env = (false, eval a X.env) :: starEach [] X.env) (hpl : (backTo pos (starEach [] X.env)).any (·.1) = false) :
    PE X (.Call (.Name x pf) [a] [] pos) (RdE (gx X) W fun ρ => bnd (ma ρ) fun v => bnd (dat v) fun x => bnd (opt (b1D f x)) fun z => fresh m z) :=
  (pe_callTy hc hg hm hv (a_cons ha a_nil he) hn hdb he hpl).restR.imp fun σ H Q h => b1_rd h
/-! ### of two ints -/
def rB2 (f : B2) : List V → Hp → VK → Prop := fun xs H Q => ∃ i j k, xs = [.int i, .int j] ∧ b2D f (.int i) (.int j) = some (.int k) ∧ Q (.int k) H
theorem b2_int {f : B2} {x y z : Dt} (h : b2D f x y = some z) : ∃ i j k, x = .int i ∧ y = .int j ∧ z = .int k := by
  unfold b2D at h
  split at h <;> cases h <;> exact ⟨_, _, _, rfl, rfl, rfl⟩
theorem b2_rd {f : B2} {σ : L2.St} {H : Hp} {Q : VK} (h : RdE (gx X) W (fun ρ => bnd (ma ρ) fun v => bnd (mb ρ) fun w => bnd (pureD v) fun x => bnd (pureD w) fun y => bnd (opt (b2D f x y)) fun z => ret (.d z)) σ H Q) :
    RdA (gx X) W (fun ρ => bnd (ma ρ) fun v => bnd (bnd (mb ρ) fun w => bnd (ret []) fun vs => ret (w :: vs)) fun vs => ret (v :: vs)) σ H fun vs H1 => rB2 f vs H1 Q := by
  obtain ⟨ρ, st, μ, en, sr, p⟩ := h
  refine ⟨ρ, st, μ, en, sr, Post.arg2 p fun v w μ1 st1 H1 s1 sr1 q1 xs rx => ?_⟩
  cases rx with
  | cons r1 r2 =>
    cases r2 with
    | cons r2 r3 =>
      cases r3
      obtain ⟨d, rfl, q2⟩ := q1.pureD
      obtain ⟨d', rfl, q3⟩ := q2.pureD
      obtain ⟨z, e2, q4⟩ := q3.opt
      obtain ⟨i, j, k, rfl, rfl, rfl⟩ := b2_int e2
      have r1' := RT.int (G := gx X) (H := H1) (.of r1)
      have r2' := RT.int (G := gx X) (H := H1) (.of r2)
      subst r1'
      subst r2'
      exact ⟨i, j, k, rfl, e2, Post.ok sr1 q4 _ (rf_int (G := gx X) (H := H1) _)⟩
theorem cr_b2min (hc : X.calm = true) : CallR X (.builtin "min") (rB2 .min) := by
  rintro pins s σ H xs us Q I r ⟨i, j, k, rfl, e, q⟩
  cases e
  exact call_min2 hc pins s σ H _ us Q I r ⟨i, j, rfl, q⟩
theorem cr_b2max (hc : X.calm = true) : CallR X (.builtin "max") (rB2 .max) := by
  rintro pins s σ H xs us Q I r ⟨i, j, k, rfl, e, q⟩
  cases e
  exact call_max2 hc pins s σ H _ us Q I r ⟨i, j, rfl, q⟩
theorem cr_b2gcd : CallR X (.builtin "math.gcd") (rB2 .gcd) := by
  rintro pins s σ H xs us Q I r ⟨i, j, k, rfl, e, q⟩
  cases e
  exact cr_gcd pins s σ H _ us Q I r ⟨i, j, rfl, q⟩
theorem e_b2 {f : B2} (hc : CallR X (.builtin id) (rB2 f)) (hg : Gl X x) (hm : X.mg x = none) (hv : bootBuiltins x = some (.builtin id)) (ha : PE X a (RdE (gx X) W ma)) (hb : PE X b (RdE (gx X) W mb)) (hn : x ≠ "__name__") (hdb : (x == ("__debug__" : Str)) = false)
    (he : starEach [a, b] X.env = (false, eval a X.env) :: starEach [b] X.env) (he2 : starEach [b] X.env = (false, eval b X.env) :: starEach [] X.env) (hpl : (backTo pos (starEach [b] X.env)).any (·.1) = false) :
    PE X (.Call (.Name x pf) [a, b] [] pos) (RdE (gx X) W fun ρ => bnd (ma ρ) fun v => bnd (mb ρ) fun w => bnd (pureD v) fun x => bnd (pureD w) fun y => bnd (opt (b2D f x y)) fun z => ret (.d z)) :=
  (pe_callB hc hg hm hv (a_cons ha (a_cons hb a_nil he2) he) hn hdb he hpl).imp fun σ H Q h => b2_rd h
theorem e_b2m {f : B2} (hc : CallR X (.builtin id) (rB2 f)) (hg : Gl X x) (hm : X.mg x = some (.builtin id)) (ha : PE X a (RdE (gx X) W ma)) (hb : PE X b (RdE (gx X) W mb)) (hdb : (x == ("__debug__" : Str)) = false)
    (he : starEach [a, b] X.env = (false, eval a X.env) :: starEach [b] X.env) (he2 : starEach [b] X.env = (false, eval b X.env) :: starEach [] X.env) (hpl : (backTo pos (starEach [b] X.env)).any (·.1) = false) :
    PE X (.Call (.Name x pf) [a, b] [] pos) (RdE (gx X) W fun ρ => bnd (ma ρ) fun v => bnd (mb ρ) fun w => bnd (pureD v) fun x => bnd (pureD w) fun y => bnd (opt (b2D f x y)) fun z => ret (.d z)) :=
  (pe_callBfun hc hg hm (a_cons ha (a_cons hb a_nil he2) he) hdb he hpl).imp fun σ H Q h => b2_rd h
end
/-! ### isinstance -/
section
variable {X : Cx} {pins : List (Addr × Obj)} {σ : L2.St} {H : Hp} {s : Shared}
theorem kit_rt {d : Dt} {x : V} {u : Value} (I : Inv X pins σ H s) (rt : RT (gx X) H d x) (r : RelV x u) : ∃ P : Heap → Prop, PySem.W.KitX X.K u (.type (tyD d).nm) P ∧ P s.heap ∧ u ≠ .builtin "__main__.__loader__#opaque" := by
  cases d with
  | none => cases rt.none; cases (show u = Value.none from r); exact ⟨_, PySem.W.kitx_none, True.intro, fun z => nomatch z⟩
  | bool b => cases rt.bool; cases (show u = Value.bool b from r); exact ⟨_, PySem.W.kitx_bool, True.intro, fun z => nomatch z⟩
  | int i => cases rt.int; obtain ⟨t, q⟩ := (show ∃ t, u = Value.int i t from r); cases q; exact ⟨_, PySem.W.kitx_int, True.intro, fun z => nomatch z⟩
  | str i => cases rt.str; obtain ⟨t, q⟩ := (show ∃ t, u = Value.str i t from r); cases q; exact ⟨_, PySem.W.kitx_str, True.intro, fun z => nomatch z⟩
  | list ds =>
    obtain ⟨a, vs, rfl, h1, h2⟩ := rt.list
    cases (show u = Value.ref a from r)
    obtain ⟨hz, its, n, o, rv, hl, g, g1, g2, g3⟩ := Inv.rdl I h1
    exact ⟨_, PySem.W.kitx_list, ⟨o, g, g1⟩, fun z => nomatch z⟩
  | tuple ds =>
    obtain ⟨a, vs, rfl, h1, h2⟩ := rt.tuple
    cases (show u = Value.ref a from r)
    obtain ⟨its, rv, ⟨o, g1, g2, n, g3⟩, hz⟩ := I.tuple h1
    exact ⟨_, PySem.W.kitx_tuple, ⟨o, g1, g2⟩, fun z => nomatch z⟩
  | dict kvs =>
    obtain ⟨a, rfl, es, e1, dj⟩ := rt.dd
    cases (show u = Value.ref a from r)
    obtain ⟨hd, hz, o, ep, g1, g2, g3⟩ := raw_of I e1
    exact ⟨_, PySem.W.kitx_dict, ⟨o, g1, g2.1⟩, fun z => nomatch z⟩
theorem kit_sub {K : PySem.W.Frag} (t c : Ty) : PySem.W.kitOne K (.type t.nm) (.type c.nm) = some (subTy t c) := by
  refine kit_ty ?_
  revert t c
  intro t c
  cases t <;> cases c <;> decide +kernel
/-- isinstance(x, T) -/
def rIs1 (G : Wd) (c : Ty) : List V → Hp → VK → Prop := fun xs H Q => ∃ x d, xs = [x, .ty c.nm] ∧ RT G H d x ∧ Q (.bl (subTy (tyD d) c)) H
theorem cr_is1 {c : Ty} : CallR X (.builtin "isinstance") (rIs1 (gx X) c) := by
  rintro pins s σ H xs us Q I r ⟨x, d, rfl, rt, q⟩
  obtain ⟨u1, u2, rfl, r1, r2⟩ := vals2 r
  cases (show u2 = Value.type c.nm from r2)
  obtain ⟨P, Z, p, hx⟩ := kit_rt I rt r1
  exact PySem.W.kia_one Z I.kIn p (kit_sub _ c) hx fun tk => ⟨.bl _, H, I.tok tk, rfl, q⟩
def rIs2 (G : Wd) (c c' : Ty) : List V → Hp → VK → Prop := fun xs H Q => ∃ x d tp, xs = [x, .ref tp] ∧ H tp = some (.tup [.ty c.nm, .ty c'.nm]) ∧ RT G H d x ∧ Q (.bl (subTy (tyD d) c || (subTy (tyD d) c' || false))) H
theorem cr_is2 {c c' : Ty} : CallR X (.builtin "isinstance") (rIs2 (gx X) c c') := by
  rintro pins s σ H xs us Q I r ⟨x, d, tp, rfl, hT, rt, q⟩
  obtain ⟨u1, u2, rfl, r1, r2⟩ := vals2 r
  cases (show u2 = Value.ref tp from r2)
  obtain ⟨P, Z, p, hx⟩ := kit_rt I rt r1
  obtain ⟨_, its, rv, o, h1, h2, n, h3⟩ := (show ObjOk X.prog X.w H s.heap tp (.tup _) from I.hok tp _ hT)
  obtain ⟨u3, u4, rfl, r3, r4⟩ := vals2 rv
  cases (show u3 = Value.type c.nm from r3)
  cases (show u4 = Value.type c'.nm from r4)
  obtain ⟨oc, od, dt, sl⟩ := o
  simp only at h2 h3
  subst h2
  subst h3
  have e : PySem.W.kitAny X.K (.type (tyD d).nm) [.type c.nm, .type c'.nm] = some (subTy (tyD d) c || (subTy (tyD d) c' || false)) := by
    refine kitAny_cons (kit_sub _ c) (fun h => ?_) fun h => by rw [h]; rfl
    rw [h, Bool.false_or]
    refine kitAny_cons (kit_sub _ c') (fun h => ?_) fun h => by rw [h]; rfl
    rw [h]; rfl
  exact PySem.W.kia_tup Z I.kIn p h1 e hx fun tk => ⟨.bl _, H, I.tok tk, rfl, q⟩
end
section
variable {X : Cx} {C : Ctx} {W : WX} {a b : Expr} {ma mb : Env → M Val} {pos pf pt pu pp : Pos} {x t t' : Str} {k : Nat}
/-- a built-in class by its name -/
def TyName (X : Cx) (t : Str) (c : Ty) : Prop := Gl X t ∧ X.mg t = none ∧ bootBuiltins t = some (.type c.nm) ∧ t ≠ "__name__" ∧ (t == ("__debug__" : Str)) = false
theorem TyName.pe {c : Ty} (h : TyName X t c) : PE X (.Name t pt) (tC (.ty c.nm)) := pe_bltn h.1 h.2.1 h.2.2.1 (by rfl) h.2.2.2.1 h.2.2.2.2
theorem isi_rd {ts : List Ty} {σ : L2.St} {H : Hp} {Q : VK} {R : V → Hp → Prop} (h : RdE (gx X) W (fun ρ => bnd (ma ρ) fun v => isiV v ts) σ H Q)
    (g : ∀ x d H1, RT (gx X) H1 d x → (∀ H2, Grown H1 H2 → Q (.bl (ts.any (subTy (tyD d)))) H2) → R x H1) : RdE (gx X) W ma σ H R := rd1 h fun v μ st H1 x sr rx p => by
  unfold isiV at p
  obtain ⟨d, e, p⟩ := p.dat
  exact g x d H1 (sr.look rx e) fun H2 gr => Post.ok (sr.grown gr) (Post.later gr.step p) _ (rf_bool _)
theorem e_isi1 {c : Ty} (hg : Gl X x) (hm : X.mg x = none) (hv : bootBuiltins x = some (.builtin "isinstance")) (ha : PE X a (RdE (gx X) W ma)) (ht : TyName X t c) (hn : x ≠ "__name__") (hdb : (x == ("__debug__" : Str)) = false)
    (he : starEach [a, .Name t pt] X.env = (false, eval a X.env) :: starEach [.Name t pt] X.env) (he2 : starEach [.Name t pt] X.env = (false, eval (.Name t pt) X.env) :: starEach [] X.env) (hpl : (backTo pos (starEach [.Name t pt] X.env)).any (·.1) = false) :
    PE X (.Call (.Name x pf) [a, .Name t pt] [] pos) (RdE (gx X) W fun ρ => bnd (ma ρ) fun v => isiV v [c]) :=
  (pe_callB (cr_is1 (c := c)) hg hm hv (pa_cons ha (pa_cons ht.pe pa_nil he2) he) hn hdb he hpl).imp fun σ H Q h => isi_rd h fun x d H1 rt q => by
    exact ⟨x, d, rfl, rt, by simpa using q _ (.refl _)⟩
theorem e_isi2 {c c' : Ty} (hg : Gl X x) (hm : X.mg x = none) (hv : bootBuiltins x = some (.builtin "isinstance")) (ha : PE X a (RdE (gx X) W ma)) (ht : TyName X t c) (ht' : TyName X t' c') (hn : x ≠ "__name__") (hdb : (x == ("__debug__" : Str)) = false)
    (he3 : starEach [.Name t pt, .Name t' pu] X.env = (false, eval (.Name t pt) X.env) :: starEach [.Name t' pu] X.env) (he4 : starEach [.Name t' pu] X.env = (false, eval (.Name t' pu) X.env) :: starEach [] X.env)
    (he : starEach [a, .Tuple [.Name t pt, .Name t' pu] k pp] X.env = (false, eval a X.env) :: starEach [.Tuple [.Name t pt, .Name t' pu] k pp] X.env)
    (he2 : starEach [.Tuple [.Name t pt, .Name t' pu] k pp] X.env = (false, eval (.Tuple [.Name t pt, .Name t' pu] k pp) X.env) :: starEach [] X.env) (hpl : (backTo pos (starEach [.Tuple [.Name t pt, .Name t' pu] k pp] X.env)).any (·.1) = false) :
    PE X (.Call (.Name x pf) [a, .Tuple [.Name t pt, .Name t' pu] k pp] [] pos) (RdE (gx X) W fun ρ => bnd (ma ρ) fun v => isiV v [c, c']) :=
  (pe_callB (cr_is2 (c := c) (c' := c')) hg hm hv (pa_cons ha (pa_cons (pe_tup (pa_cons ht.pe (pa_cons ht'.pe pa_nil he4) he3)) pa_nil he2) he) hn hdb he hpl).imp fun σ H Q h => isi_rd h fun x d H1 rt q => by
    exact ⟨by rw [sizeLine_eq]; simp, fun p hp => ⟨x, d, p, rfl, upd_same, rt.grown (.new hp), by simpa using q _ (.new hp)⟩⟩
end
end EV
end

section
set_option autoImplicit false
set_option linter.all false
set_option maxRecDepth 100000
set_option Elab.async false
/-! EvM: methods of lists; o[i] = v. -/
namespace EV
open PySem PySem.Spec
open PyProof.Rows
open L2
section
variable {G : Wd} {μ : Loc_} {st : Sto} {H : Hp} {n : Nat} {W : Value → Option Addr → Hp → Prop}
theorem up_rf {c : Cell} {u : HO} (sr : SR G μ st H) (e : st[n]? = some c) (l : c.live = true) : ∀ b o, H b = some o → Fz o → upd H (μ n) u b = some o := (Step.put (c' := c) (u := u) sr e l).fz
theorem put_lst {c : Cell} {xs : List Dt} {vs : List V} (sr : SR G μ st H) (e : st[n]? = some c) (l : c.live = true) (r : G.Fs H xs vs) :
    Step μ st H μ (st.set n (.lst xs)) (upd H (μ n) (.lst vs)) ∧ SR G μ (st.set n (.lst xs)) (upd H (μ n) (.lst vs)) :=
  ⟨Step.put sr e l, sr.put e l ⟨vs, upd_same, RFs.mono (up_rf sr e l) xs vs r⟩⟩
theorem put_lsv {c : Cell} {xs : List Val} {vs : List V} (sr : SR G μ st H) (e : st[n]? = some c) (l : c.live = true) (r : RVs G μ st H xs vs) :
    Step μ st H μ (st.set n (.lsv xs)) (upd H (μ n) (.lst vs)) ∧ SR G μ (st.set n (.lsv xs)) (upd H (μ n) (.lst vs)) :=
  ⟨Step.put sr e l, sr.put e l ⟨vs, upd_same, r.step (Step.put sr e l)⟩⟩
theorem rvs_set {ds : List Val} {xs : List V} {d : Val} {x : V} (h : RVs G μ st H ds xs) (k : RV G μ st H d x) : ∀ j : Nat, RVs G μ st H (ds.set j d) (xs.set j x) := by
  unfold RVs at h ⊢
  induction h with
  | nil => intro j; exact .nil
  | cons h1 h2 ih =>
    intro j
    cases j with
    | zero => exact .cons k h2
    | succ j => exact .cons h1 (ih j)
theorem rvs_app {ds es : List Val} {xs ys : List V} (h : RVs G μ st H ds xs) (k : RVs G μ st H es ys) : RVs G μ st H (ds ++ es) (xs ++ ys) := by
  unfold RVs at h k ⊢
  induction h with
  | nil => exact k
  | cons h1 h2 ih => exact .cons h1 ih
theorem ix_seq {m : Nat} {i : Int} {j : Nat} (h : ixOf m i = some j) : seqIndex? i m = some j ∧ j < m ∧ -(m : Int) ≤ i ∧ i < m := ixN_seq h
end
section
variable {X : Cx} {W : WX} {o a : Expr} {es : List Expr} {mo : Env → M Val} {ms : Env → M (List Val)} {apos cpos : Pos}
/-- a method's call, by values -/
def rMt (G : Wd) (f : Mt) : V → List V → Hp → VK → Prop := fun x xs H Q => ∃ n μ st vs, SR G μ st H ∧ RVs G μ st H vs xs ∧ x = .ref (μ n) ∧ n < st.length ∧
  ∃ r st', mtV f (.ref n) vs st = .ok r st' ∧ ∀ μ' H', Step μ st H μ' st' H' → SR G μ' st' H' → ∀ z, RV G μ' st' H' r z → Q z H'
theorem mtV_noerr {f : Mt} {v : Val} {vs : List Val} {st : Sto} : (∃ r st', mtV f v vs st = .ok r st') ∨ mtV f v vs st = .bad := by
  unfold mtV mtApp mtExt mtPop mtPopAt
  repeat' split
  all_goals first
    | exact .inr rfl
    | exact .inl ⟨_, _, rfl⟩
theorem mtK_ok {v : Val} {st : Sto} : (∃ n, v = .ref n ∧ mtK v st = .ok () st ∧ ((∃ xs, st[n]? = some (.lst xs)) ∨ ∃ xs, st[n]? = some (.lsv xs))) ∨ mtK v st = .bad := by
  unfold mtK
  repeat' split
  all_goals first
    | exact .inr rfl
    | (rename_i h; exact .inl ⟨_, rfl, rfl, .inl ⟨_, h⟩⟩)
    | (rename_i h; exact .inl ⟨_, rfl, rfl, .inr ⟨_, h⟩⟩)
theorem mt_rd {f : Mt} {σ : L2.St} {H : Hp} {Q : VK} (h : RdE (gx X) W (fun ρ => bnd (mo ρ) fun v => bnd (mtK v) fun _ => bnd (ms ρ) fun vs => mtV f v vs) σ H Q) :
    RdE (gx X) W mo σ H fun x H1 => tyV X.K "list" x H1 ∧ RdA (gx X) W ms σ H1 fun xs H2 => rMt (gx X) f x xs H2 Q := by
  obtain ⟨ρ, st, μ, en, sr, p⟩ := h
  refine ⟨ρ, st, μ, en, sr, (Post.bnd p).imp fun v μ1 st1 H1 s1 sr1 p1 x rx => ?_⟩
  rcases mtK_ok (v := v) (st := st1) with ⟨n, rfl, ek, hk⟩ | ek
  · have p2 : Post (gx X) (fun c d H' => W c d σ H') μ1 st1 H1 (EV.bnd (ms ρ) (fun vs => mtV f (.ref n) vs) st1) fun v μ' st' H' => ∀ x, RV (gx X) μ' st' H' v x → Q x H' := by
      unfold EV.bnd at p1
      rw [ek] at p1
      exact p1
    obtain ⟨hn, rfl⟩ := rx
    refine ⟨.inl ⟨rfl, ?_⟩, ρ, st1, μ1, en.step s1, sr1, (Post.bnd p2).imp fun vs μ2 st2 H2 s2 sr2 p3 xs rxs => ?_⟩
    · rcases hk with ⟨xs, e⟩ | ⟨xs, e⟩
      · obtain ⟨vs, q, _⟩ := sr1.cell n _ e
        exact ⟨vs, .inl (.inl q)⟩
      · obtain ⟨vs, q, _⟩ := sr1.cell n _ e
        exact ⟨vs, .inl (.inl q)⟩
    · refine ⟨n, μ2, st2, vs, sr2, rxs, by rw [s2.mu n hn], Nat.lt_of_lt_of_le hn s2.len, ?_⟩
      rcases mtV_noerr (f := f) (v := .ref n) (vs := vs) (st := st2) with ⟨r, st', e⟩ | e
      · rw [e] at p3
        exact ⟨r, st', e, p3⟩
      · rw [e] at p3
        exact p3.elim
  · exfalso
    unfold EV.bnd at p1
    rw [ek] at p1
    exact p1
theorem mtApp_inv {n : Nat} {vs : List Val} {st st' : Sto} {r : Val} (e : mtV .append (.ref n) vs st = .ok r st') : ∃ x, vs = [x] ∧ r = .d .none ∧
    ((∃ xs y, st[n]? = some (.lst xs) ∧ x = .d y ∧ xs.length < sizeLine ∧ st' = st.set n (.lst (xs ++ [y]))) ∨ ∃ xs, st[n]? = some (.lsv xs) ∧ xs.length < sizeLine ∧ st' = st.set n (.lsv (xs ++ [x]))) := by
  replace e : mtApp (.ref n) vs st = .ok r st' := e
  match vs, e with
  | [x], e =>
    refine ⟨x, rfl, ?_⟩
    unfold mtApp at e
    simp only at e
    cases c : st[n]? with
    | none => rw [c] at e; cases x <;> cases e
    | some k =>
      rw [c] at e
      cases k with
      | lst xs =>
        cases x with
        | d y =>
          simp only at e
          split at e
          · rename_i hz; cases e; exact ⟨rfl, .inl ⟨xs, y, rfl, rfl, hz, rfl⟩⟩
          · cases e
        | _ => cases e
      | lsv xs =>
        cases x <;> (simp only at e; split at e <;> (first | cases e; done | (rename_i hz; cases e; exact ⟨rfl, .inr ⟨xs, rfl, hz, rfl⟩⟩)))
      | _ => cases x <;> cases e
  | [], e => cases e
  | _ :: _ :: _, e => cases e
theorem mtExt_inv {n : Nat} {vs : List Val} {st st' : Sto} {r : Val} (e : mtV .extend (.ref n) vs st = .ok r st') : ∃ m xs ys, vs = [.ref m] ∧ r = .d .none ∧ st[n]? = some (.lst xs) ∧ st[m]? = some (.lst ys) ∧ xs.length + ys.length ≤ sizeLine ∧ st' = st.set n (.lst (xs ++ ys)) := by
  replace e : mtExt (.ref n) vs st = .ok r st' := e
  match vs, e with
  | [.ref m], e =>
    unfold mtExt at e
    simp only at e
    split at e
    · rename_i xs ys h1 h2
      split at e
      · rename_i hz; cases e; exact ⟨m, xs, ys, rfl, rfl, h1, h2, fits_iff hz, rfl⟩
      · cases e
    · cases e
  | [.d _], e => cases e
  | [.err _ _], e => cases e
  | [.fn _], e => cases e
  | [], e => cases e
  | _ :: _ :: _, e => unfold mtExt at e; split at e <;> first | cases e; done | (rename_i hf; cases hf)
theorem mtPop_inv {n : Nat} {vs : List Val} {st st' : Sto} {r : Val} (e : mtV .pop (.ref n) vs st = .ok r st') : ∃ xs y, vs = [] ∧ r = .d y ∧ st[n]? = some (.lst xs) ∧ xs[xs.length - 1]? = some y ∧ st' = st.set n (.lst xs.dropLast) := by
  replace e : mtPop (.ref n) vs st = .ok r st' := e
  match vs, e with
  | [], e =>
    unfold mtPop at e
    simp only at e
    split at e
    · rename_i xs h1
      split at e
      · rename_i y hy; cases e; exact ⟨xs, y, rfl, rfl, h1, hy, rfl⟩
      · cases e
    · cases e
  | _ :: _, e => cases e
theorem mtPopAt_inv {n : Nat} {vs : List Val} {st st' : Sto} {r : Val} (e : mtV .popAt (.ref n) vs st = .ok r st') : ∃ i xs j y, vs = [.d (.int i)] ∧ r = .d y ∧ st[n]? = some (.lst xs) ∧ ixOf xs.length i = some j ∧ xs[j]? = some y ∧ st' = st.set n (.lst (xs.eraseIdx j)) := by
  replace e : mtPopAt (.ref n) vs st = .ok r st' := e
  have two : ∃ i, vs = [.d (.int i)] := by
    unfold mtPopAt at e
    split at e
    · exact ⟨_, rfl⟩
    · cases e
  obtain ⟨i, rfl⟩ := two
  unfold mtPopAt at e
  simp only at e
  split at e
  · rename_i xs h1
    split at e
    · rename_i j hj
      split at e
      · rename_i y hy; cases e; exact ⟨i, xs, j, y, rfl, rfl, h1, hj, hy, rfl⟩
      · cases e
    · cases e
  · cases e
theorem rvs_one {μ : Loc_} {st : Sto} {H : Hp} {v : Val} {xs : List V} (h : RVs (gx X) μ st H [v] xs) : ∃ x, xs = [x] ∧ RV (gx X) μ st H v x := by
  cases h with
  | cons r1 r2 => cases r2; exact ⟨_, rfl, r1⟩
theorem mt_appendR : MtM X "list.append" (rMt (gx X) .append) := by
  rintro pins s σ H x xs v us Q I rx rv ⟨n, μ, st, vs, sr, rvs, rfl, hn, r, st', e, q⟩
  obtain ⟨w, rfl, rfl, ⟨ds, y, h1, rfl, hz, rfl⟩ | ⟨ds, h1, hz, rfl⟩⟩ := mtApp_inv e
  · obtain ⟨z, rfl, rz⟩ := rvs_one rvs
    obtain ⟨ws, hw, rf⟩ := sr.cell _ _ h1
    obtain ⟨s1, sr1⟩ := put_lst sr h1 rfl (rf.app (RFs.one rz))
    exact mt_append pins s σ H _ _ v us Q I rx rv ⟨_, ws, _, rfl, rfl, hw, by rw [← rf.length]; exact hz, q _ _ s1 sr1 _ (rf_none (G := gx X) (H := H))⟩
  · obtain ⟨z, rfl, rz⟩ := rvs_one rvs
    obtain ⟨ws, hw, rf⟩ := sr.cell _ _ h1
    obtain ⟨s1, sr1⟩ := put_lsv sr h1 rfl (rvs_app rf (.cons rz .nil))
    exact mt_append pins s σ H _ _ v us Q I rx rv ⟨_, ws, _, rfl, rfl, hw, by rw [← Paired.length rf]; exact hz, q _ _ s1 sr1 _ (rf_none (G := gx X) (H := H))⟩
theorem mt_extendR : MtM X "list.extend" (rMt (gx X) .extend) := by
  rintro pins s σ H x xs v us Q I rx rv ⟨n, μ, st, vs, sr, rvs, rfl, hn, r, st', e, q⟩
  obtain ⟨m, ds, es, rfl, rfl, h1, h2, hz, rfl⟩ := mtExt_inv e
  obtain ⟨z, rfl, _, rfl⟩ := rvs_one rvs
  obtain ⟨ws, hw, rf⟩ := sr.cell _ _ h1
  obtain ⟨us2, hu, rg⟩ := sr.cell _ _ h2
  obtain ⟨s1, sr1⟩ := put_lst sr h1 rfl (rf.app rg)
  exact mt_extend pins s σ H _ _ v us Q I rx rv ⟨_, _, ws, us2, rfl, rfl, hw, hu, by rw [← rf.length, ← rg.length]; exact hz, q _ _ s1 sr1 _ (rf_none (G := gx X) (H := H))⟩
theorem mt_popR : MtM X "list.pop" (rMt (gx X) .pop) := by
  rintro pins s σ H x xs v us Q I rx rv ⟨n, μ, st, vs, sr, rvs, rfl, hn, r, st', e, q⟩
  obtain ⟨ds, y, rfl, rfl, h1, hy, rfl⟩ := mtPop_inv e
  cases rvs
  obtain ⟨ws, hw, rf⟩ := sr.cell _ _ h1
  obtain ⟨z, e1, e2⟩ := rf.get hy
  obtain ⟨s1, sr1⟩ := put_lst sr h1 rfl rf.dropLast
  exact mt_pop pins s σ H _ _ v us Q I rx rv ⟨_, ws, z, rfl, rfl, hw, by rw [← rf.length]; exact e1, q _ _ s1 sr1 _ (RF.mono (up_rf sr h1 rfl) _ _ e2)⟩
theorem mt_popAtR : MtM X "list.pop" (rMt (gx X) .popAt) := by
  rintro pins s σ H x xs v us Q I rx rv ⟨n, μ, st, vs, sr, rvs, rfl, hn, r, st', e, q⟩
  obtain ⟨i, ds, j, y, rfl, rfl, h1, hj, hy, rfl⟩ := mtPopAt_inv e
  obtain ⟨t, rfl, rt⟩ := rvs_one rvs
  obtain ⟨ws, hw, rf⟩ := sr.cell _ _ h1
  obtain ⟨z, e1, e2⟩ := rf.get hy
  obtain ⟨s1, sr1⟩ := put_lst sr h1 rfl (rf.eraseIdx j)
  have hi := RT.int (G := gx X) (H := H) (.of rt)
  subst hi
  obtain ⟨q1, q2, q3, q4⟩ := ix_seq hj
  obtain ⟨hz, _⟩ := I.lstM hw
  rw [← rf.length] at hz
  have l63 := line63
  rw [sizeLine_eq] at hz
  exact mt_popAt pins s σ H _ _ v us Q I rx rv ⟨_, ws, _, j, z, rfl, rfl, hw, by omega, by omega, by rw [← rf.length]; exact q1, e1, q _ _ s1 sr1 _ (RF.mono (up_rf sr h1 rfl) _ _ e2)⟩
theorem e_mt {f : Mt} {name : Str} {id : String} (pa : PlainAttrs "list") (slot : Slot "list" name id) (hty : typeOf (.builtin id) = pure (.type "method_descriptor")) (hm : MtR X id (rMt (gx X) f)) (ho : PE X o (RdE (gx X) W mo)) (ha : PA X (a :: es) (RdA (gx X) W ms))
    (hbase : attributeBase o name X.env (eval o X.env) = eval o X.env)
    (hfew : ((backTo cpos (starEach (a :: es) X.env)).all (fun x => !x.1) && (backToKw cpos (keywordEach [] X.env)).all (fun x => x.1.isSome) && decide ((a :: es).length + ([] : List Keyword).length + (if ([] : List Keyword).isEmpty then 0 else 1) < 30)) = true)
    (hline : (apos.endLine == cpos.line) = true) (hs : starEach (a :: es) X.env = (false, eval a X.env) :: starEach es X.env) (hplain : (backTo cpos (starEach es X.env)).any (·.1) = false) :
    PE X (.Call (.Attribute o name apos) (a :: es) [] cpos) (RdE (gx X) W fun ρ => bnd (mo ρ) fun v => bnd (mtK v) fun _ => bnd (ms ρ) fun vs => mtV f v vs) :=
  (pe_bm pa slot hty hm ho ha hbase hfew hline hs hplain).imp fun σ H Q h => mt_rd h
theorem e_mt0 {f : Mt} {name : Str} {id : String} (pa : PlainAttrs "list") (slot : Slot "list" name id) (hty : typeOf (.builtin id) = pure (.type "method_descriptor")) (hm : MtR X id (rMt (gx X) f)) (ho : PE X o (RdE (gx X) W mo))
    (hbase : attributeBase o name X.env (eval o X.env) = eval o X.env) (hline : (apos.endLine == cpos.line) = true) :
    PE X (.Call (.Attribute o name apos) [] [] cpos) (RdE (gx X) W fun ρ => bnd (mo ρ) fun v => bnd (mtK v) fun _ => bnd (ret []) fun vs => mtV f v vs) :=
  (pe_bm0 pa slot hty hm ho hbase hline).imp fun σ H Q h => by
    obtain ⟨ρ, st, μ, en, sr, p⟩ := mt_rd (ms := fun _ => ret []) h
    refine ⟨ρ, st, μ, en, sr, p.imp fun v μ1 st1 H1 s1 sr1 g x rx => ?_⟩
    obtain ⟨g1, ρ', st', μ', en', sr', g2⟩ := g x rx
    exact ⟨g1, Post.ok (a := ([] : List Val)) sr' g2 [] .nil⟩
/-! ### o[i] = v -/
def rSet (G : Wd) : V → V → V → Hp → (Hp → Prop) → Prop := fun o i v H Q => ∃ vo vi vx μ st st', SR G μ st H ∧ RV G μ st H vo o ∧ RV G μ st H vi i ∧ RV G μ st H vx v ∧ putV vo vi vx st = .ok () st' ∧
  ∀ μ' H', Step μ st H μ' st' H' → SR G μ' st' H' → Q H'
/-- the state of the draws: one of its parts put otherwise -/
def DcvR (G : Wd) (μ : Loc_) (st : Sto) (H : Hp) (p : Str × Val) (q : Key × V) : Prop := q.1 = .inr p.1 ∧ RV G μ st H p.2 q.2
theorem _root_.PySem.Paired.imp2 {α β : Type} {R S : α → β → Prop} {xs : List α} {ys : List β} (h : Paired R xs ys) (f : ∀ a b, R a b → S a b) : Paired S xs ys := Paired.mapP h f
theorem dcv_put {G : Wd} {μ : Loc_} {st : Sto} {H : Hp} {kvs : List (Str × Val)} {ws : List (Key × V)} {k : Str} {y : Val} {v : V} (h : Paired (DcvR G μ st H) kvs ws) (r : RV G μ st H y v) (hk : (kvs.lookup k).isSome = true) :
    Paired (DcvR G μ st H) (kvs.map fun p => if p.1 = k then (p.1, y) else p) (putK ws (.inr k) v) := by
  have any : ∀ {kvs : List (Str × Val)} {ws : List (Key × V)}, Paired (DcvR G μ st H) kvs ws → (kvs.lookup k).isSome = true → (ws.any fun kv => decide (kv.1 = (.inr k : Key))) = true := by
    intro kvs ws h
    induction h with
    | nil => intro e; cases e
    | @cons a b as bs r t ih =>
      intro e
      rw [List.any_cons, Bool.or_eq_true, decide_eq_true_eq]
      by_cases c : k = a.1
      · exact .inl (by rw [r.1, c])
      · refine .inr (ih ?_)
        obtain ⟨a1, a2⟩ := a
        rw [List.lookup_cons] at e
        have : (k == a1) = false := by simpa using c
        rw [this] at e
        exact e
  have each : ∀ {kvs : List (Str × Val)} {ws : List (Key × V)}, Paired (DcvR G μ st H) kvs ws → Paired (DcvR G μ st H) (kvs.map fun p => if p.1 = k then (p.1, y) else p) (ws.map fun kv => if kv.1 = (.inr k : Key) then (kv.1, v) else kv) := by
    intro kvs ws h
    induction h with
    | nil => exact .nil
    | @cons a b as bs r' t ih =>
      refine .cons ?_ ih
      by_cases c : a.1 = k
      · have c2 : b.1 = (.inr k : Key) := by rw [r'.1, c]
        simp only [if_pos c, if_pos c2]
        exact ⟨r'.1, r⟩
      · have c2 : ¬ b.1 = (.inr k : Key) := by rw [r'.1]; exact fun z => c (Sum.inr.inj z)
        simp only [if_neg c, if_neg c2]
        exact r'
  unfold putK
  rw [if_pos (any h hk)]
  exact each h
theorem set_all (hu : X.A.units + 9 < cLine) : PSet X (rSet (gx X)) := by
  rintro pins s σ H o i v ov iv u Q I ro ri rv ⟨vo, vi, vx, μ, st, st', sr, r1, r2, r3, e, q⟩
  unfold putV at e
  split at e
  · rename_i n
    obtain ⟨hn, rfl⟩ := r1
    split at e
    · rename_i h1
      split at e
      · rename_i j hj
        cases e
        have hi := RT.int (G := gx X) (H := H) (.of r2)
        subst hi
        obtain ⟨ws, hw, rf⟩ := sr.cell _ _ h1
        obtain ⟨s1, sr1⟩ := put_lst sr h1 rfl (rf.set r3 j)
        exact set_list pins s σ H _ _ v ov iv u Q I ro ri rv ⟨_, ws, _, j, rfl, rfl, hw, by rw [← rf.length]; exact hj, q _ _ s1 sr1⟩
      · cases e
    · rename_i h1
      split at e
      · rename_i j hj
        cases e
        have hi := RT.int (G := gx X) (H := H) (.of r2)
        subst hi
        obtain ⟨ws, hw, rf⟩ := sr.cell _ _ h1
        obtain ⟨s1, sr1⟩ := put_lsv sr h1 rfl (rvs_set rf r3 j)
        exact set_list pins s σ H _ _ v ov iv u Q I ro ri rv ⟨_, ws, _, j, rfl, rfl, hw, by rw [← Paired.length rf]; exact hj, q _ _ s1 sr1⟩
      · cases e
    · rename_i h1
      split at e
      · rename_i kvs' hk
        cases e
        obtain ⟨es, ws, hw, rf, en⟩ := sr.cell _ _ h1
        cases (show ov = Value.ref (μ n) from ro)
        refine dd_set hu I hw (Dj.of rf en) hk r2 ri r3 rv fun es' dj => ?_
        obtain ⟨vs, r5, r6⟩ := dj.to
        exact q μ _ (Step.put sr h1 rfl) (sr.put h1 rfl ⟨es', vs, upd_same, r5, r6⟩)
      · cases e
    · rename_i k h1
      split at e
      · rename_i hk
        cases e
        rw [Bool.and_eq_true] at hk
        obtain ⟨ws, hw, rf⟩ := sr.cell _ _ h1
        have hi := RT.str (G := gx X) (H := H) (.of r2)
        subst hi
        cases (show ov = Value.ref (μ n) from ro)
        have hl : ws.length < sizeLine := by
          have h2 := fits_iff hk.2
          rw [← Paired.length rf]
          omega
        refine d_setItem (y := kV (.inr k)) (by omega) I (DPut.k (k := .inr k) hw hl) ri rv fun s' I' => ⟨_, I', q μ _ (Step.put sr h1 rfl) (sr.put h1 rfl ⟨_, upd_same, ?_⟩)⟩
        exact dcv_put (rf.imp2 fun p q h => ⟨h.1, h.2.step (Step.put sr h1 rfl)⟩) (r3.step (Step.put sr h1 rfl)) hk.1
      · cases e
    · cases e
  · cases e
theorem putV_noerr {v i x : Val} {st : Sto} : (∃ st', putV v i x st = .ok () st') ∨ putV v i x st = .bad := by
  unfold putV
  repeat' split
  all_goals first
    | exact .inr rfl
    | exact .inl ⟨_, rfl⟩
theorem s_sub {i e : Expr} {mi me : Env → M Val} {pos ps : Pos} (hu : X.A.units + 9 < cLine) (he : PE X e (RdE (gx X) W me)) (ho : PE X o (RdE (gx X) W mo)) (hi : PE X i (RdE (gx X) W mi))
    (ha : ∀ v, assign (.Subscript o i ps) X.env v = (do
      let ov ← holding [v] (eval o X.env)
      let iv ← holding [v, ov] (eval i X.env)
      standAt ps
      holding [v, ov, iv] (setItem ov iv v)
      release [v, ov, iv] []))
    (hs : swapsWithSole [.Subscript o i ps] e pos.line X.env = pure false) (hw : swappedStores [.Subscript o i ps] e X.env = pure none) (h1 : (assignEach [.Subscript o i ps] X.env).map (·.2) = [assign (.Subscript o i ps) X.env]) :
    PS X (.Assign [.Subscript o i ps] e pos) (RdS (gx X) W fun ρ => bnd (me ρ) fun x => bnd (mo ρ) fun v => bnd (mi ρ) fun k => bnd (putV v k x) fun _ => ret (.nx, ρ)) :=
  (ps_asg he (pg_sub ho hi (set_all hu) ha) hs hw h1).imp fun D σ H h => by
    obtain ⟨ρ, st, μ, en, sr, p⟩ := h
    refine ⟨ρ, st, μ, en, sr, ((Post.bnd p).wish fun c d H w => w σ).imp fun vx μ1 st1 H1 s1 sr1 p1 x rx => ?_⟩
    refine ⟨ρ, st1, μ1, en.step s1, sr1, ((Post.bnd p1).wish fun c d H w => w σ).imp fun vo μ2 st2 H2 s2 sr2 p2 y ry => ?_⟩
    refine ⟨ρ, st2, μ2, (en.step s1).step s2, sr2, ((Post.bnd p2).wish fun c d H w => w σ).imp fun vi μ3 st3 H3 s3 sr3 p3 z rz => ?_⟩
    rcases putV_noerr (v := vo) (i := vi) (x := vx) (st := st3) with ⟨st', e⟩ | e
    · refine ⟨vo, vi, vx, μ3, st3, st', sr3, ry.step s3, rz, (rx.step s2).step s3, e, fun μ4 H4 s4 sr4 => ?_⟩
      unfold EV.bnd at p3
      rw [e] at p3
      have p4 := Post.later s4 p3
      exact (Post.ok (a := (Flow.nx, ρ)) sr4 p4 : ∀ σ', EnvOk (gx X) μ4 st' H4 ρ σ' → D.nx σ' H4) σ ((((en.step s1).step s2).step s3).step s4)
    · exfalso
      unfold EV.bnd at p3
      rw [e] at p3
      exact p3
end
end EV
end

section
set_option autoImplicit false
set_option linter.all false
set_option maxRecDepth 100000
set_option Elab.async false
/-! EvD: dicts that are made. -/
namespace EV
open PySem PySem.Spec
open PyProof.Rows
open L2
section
variable {X : Cx} {pins : List (Addr × Obj)} {σ : L2.St} {H : Hp} {s : Shared}
/-- the pairs of a list, as they lie -/
def PairsLie (X : Cx) (H : Hp) (h : Heap) : List (Dt × Dt) → List (Addr × Value × Value) → Prop :=
  Paired fun p l => PairAt h l.1 l.2.1 l.2.2 ∧ ∃ x z, RF X.prog X.w X.K H p.1 x ∧ RelV x l.2.1 ∧ RF X.prog X.w X.K H p.2 z ∧ RelV z l.2.2
theorem pairs_lie (I : Inv X pins σ H s) : ∀ {ds : List Dt} {vs : List V} {its : List Value} {ps : List (Dt × Dt)}, pairsOf ds = some ps → RFs X.prog X.w X.K H ds vs → Vals vs its →
    ∃ L : List (Addr × Value × Value), its = L.map (fun l => .ref l.1) ∧ PairsLie X H s.heap ps L
  | [], vs, its, ps, e, r, v => by
    rw [RFs] at r
    subst r
    cases v
    cases e
    exact ⟨[], rfl, .nil⟩
  | d :: ds, vs, its, ps, e, r, v => by
    unfold pairsOf at e
    obtain ⟨p, e1, e⟩ := Option.bind_eq_some_iff.mp e
    obtain ⟨ps', e2, rfl⟩ := Option.map_eq_some_iff.mp e
    rw [RFs] at r
    obtain ⟨x, r', rfl, r1, r2⟩ := r
    cases v with
    | cons v1 v2 =>
      obtain ⟨L, h1, h2⟩ := pairs_lie I e2 r2 v2
      unfold pairOf at e1
      split at e1
      · rename_i k y
        cases e1
        rw [RF] at r1
        obtain ⟨a, xs, rfl, sq, rs⟩ := r1
        rw [RFs] at rs
        obtain ⟨xk, t1, rfl, rk, rs⟩ := rs
        rw [RFs] at rs
        obtain ⟨xy, t2, rfl, ry, rs⟩ := rs
        rw [RFs] at rs
        subst rs
        cases v1
        obtain ⟨us, rv, ⟨o, g1, g2, n, g3⟩, hz⟩ := I.tuple sq
        obtain ⟨uk, uy, rfl, q1, q2⟩ := vals2 rv
        exact ⟨(a, uk, uy) :: L, by rw [h1]; rfl, .cons ⟨.inl ⟨o, g1, g2, n, g3⟩, xk, xy, rk, q1, ry, q2⟩ h2⟩
      · cases e1
theorem dputs_kind {kvs kvs' : List (Dt × Dt)} {k y : Dt} (h : dputs kvs k y = some kvs') : keyFor kvs k = true ∧ kvs.length < sizeLine ∧ kvs' = dput kvs k y := by
  unfold dputs at h
  split at h
  · rename_i c
    rw [Bool.and_eq_true, decide_eq_true_eq] at c
    cases h
    exact ⟨c.1, c.2, rfl⟩
  · cases h
theorem dput_head {p : Dt × Dt} {r : List (Dt × Dt)} {k y : Dt} : ∃ q r', dput (p :: r) k y = q :: r' ∧ q.1 = p.1 := by
  unfold dput
  split
  · rw [List.map_cons]
    refine ⟨_, _, rfl, ?_⟩
    split <;> rfl
  · exact ⟨p, r ++ [(k, y)], rfl, rfl⟩
theorem dput_nil {k y : Dt} : dput [] k y = [(k, y)] := rfl
theorem tup_flat {k : Dt} (h : tupKey k = true) : flatKey k = false := by
  obtain ⟨xs, ks, rfl, _⟩ := tupKey_ok h
  rfl
/-- all keys are of one kind -/
theorem dputAll_tup : ∀ {ps kvs kvs' : List (Dt × Dt)}, dputAll kvs ps = some kvs' → (∀ p r, kvs = p :: r → tupKey p.1 = true) → (kvs = [] → ∀ p r, ps = p :: r → tupKey p.1 = true) → ∀ p ∈ ps, tupKey p.1 = true
  | [], _, _, _, _, _ => fun p hp => nomatch hp
  | (k, y) :: ps, kvs, kvs', e, h1, h2 => by
    unfold dputAll at e
    obtain ⟨kv1, e1, e2⟩ := Option.bind_eq_some_iff.mp e
    obtain ⟨a1, a2, rfl⟩ := dputs_kind e1
    have hk : tupKey k = true := by
      cases kvs with
      | nil => exact h2 rfl _ _ rfl
      | cons q r =>
        have := h1 q r rfl
        unfold keyFor at a1
        simp only [this, tup_flat this, Bool.true_and, Bool.false_and, Bool.or_false] at a1
        exact a1
    intro p hp
    rcases List.mem_cons.mp hp with rfl | hp
    · exact hk
    · refine dputAll_tup e2 (fun q r eq => ?_) (fun eq => ?_) p hp
      · cases kvs with
        | nil =>
          rw [dput_nil] at eq
          injection eq with eq1 eq2
          rw [← eq1]; exact hk
        | cons q0 r0 =>
          obtain ⟨q', r', z1, z2⟩ := dput_head (p := q0) (r := r0) (k := k) (y := y)
          rw [z1] at eq
          injection eq with eq1 eq2
          rw [← eq1, z2]
          exact h1 q0 r0 rfl
      · exfalso
        cases kvs with
        | nil => rw [dput_nil] at eq; cases eq
        | cons q0 r0 =>
          obtain ⟨q', r', z1, z2⟩ := dput_head (p := q0) (r := r0) (k := k) (y := y)
          rw [z1] at eq; cases eq
theorem dputAll_flat : ∀ {ps kvs kvs' : List (Dt × Dt)}, dputAll kvs ps = some kvs' → (∀ p r, kvs = p :: r → flatKey p.1 = true) → (kvs = [] → ∀ p r, ps = p :: r → flatKey p.1 = true) → ∀ p ∈ ps, flatKey p.1 = true
  | [], _, _, _, _, _ => fun p hp => nomatch hp
  | (k, y) :: ps, kvs, kvs', e, h1, h2 => by
    unfold dputAll at e
    obtain ⟨kv1, e1, e2⟩ := Option.bind_eq_some_iff.mp e
    obtain ⟨a1, a2, rfl⟩ := dputs_kind e1
    have nt : ∀ {q : Dt}, flatKey q = true → tupKey q = false := fun {q} h => by
      cases c : tupKey q with
      | false => rfl
      | true => rw [tup_flat c] at h; cases h
    have hk : flatKey k = true := by
      cases kvs with
      | nil => exact h2 rfl _ _ rfl
      | cons q r =>
        have := h1 q r rfl
        unfold keyFor at a1
        simp only [this, nt this, Bool.true_and, Bool.false_and, Bool.false_or] at a1
        exact a1
    intro p hp
    rcases List.mem_cons.mp hp with rfl | hp
    · exact hk
    · refine dputAll_flat e2 (fun q r eq => ?_) (fun eq => ?_) p hp
      · cases kvs with
        | nil =>
          rw [dput_nil] at eq
          injection eq with eq1 eq2
          rw [← eq1]; exact hk
        | cons q0 r0 =>
          obtain ⟨q', r', z1, z2⟩ := dput_head (p := q0) (r := r0) (k := k) (y := y)
          rw [z1] at eq
          injection eq with eq1 eq2
          rw [← eq1, z2]
          exact h1 q0 r0 rfl
      · exfalso
        cases kvs with
        | nil => rw [dput_nil] at eq; cases eq
        | cons q0 r0 =>
          obtain ⟨q', r', z1, z2⟩ := dput_head (p := q0) (r := r0) (k := k) (y := y)
          rw [z1] at eq; cases eq
theorem jt_all {F : Dt → V → Prop} : ∀ {ps kvs kvs' : List (Dt × Dt)} {xs ys : List (NestedKey × Addr × Value)}, dputAll kvs ps = some kvs' → JT F kvs xs → JT F ps ys → JT F kvs' (storedAllH xs ys)
  | [], kvs, kvs', xs, ys, e, h1, h2 => by
    cases h2
    cases e
    exact h1
  | (k, y) :: ps, kvs, kvs', xs, ys, e, h1, h2 => by
    unfold dputAll at e
    obtain ⟨kv1, e1, e2⟩ := Option.bind_eq_some_iff.mp e
    obtain ⟨a1, a2, rfl⟩ := dputs_kind e1
    cases h2 with
    | cons q1 q2 =>
      obtain ⟨b1, b2, b3, z, b4, b5⟩ := q1
      have w := jt_all e2 (h1.put (v := y) b1 b2 b3 b4 b5) q2
      exact w
theorem jf_all {F : Dt → V → Prop} : ∀ {ps kvs kvs' : List (Dt × Dt)} {xs ys : List (Key × Value)}, dputAll kvs ps = some kvs' → JF F kvs xs → JF F ps ys → JF F kvs' (merged xs ys)
  | [], kvs, kvs', xs, ys, e, h1, h2 => by
    cases h2
    cases e
    exact h1
  | (k, y) :: ps, kvs, kvs', xs, ys, e, h1, h2 => by
    unfold dputAll at e
    obtain ⟨kv1, e1, e2⟩ := Option.bind_eq_some_iff.mp e
    obtain ⟨a1, a2, rfl⟩ := dputs_kind e1
    cases h2 with
    | cons q1 q2 =>
      obtain ⟨b1, b3, z, b4, b5⟩ := q1
      have w := jf_all e2 (h1.put (v := y) b1 b3 b4 b5) q2
      exact w
/-- a new dict of the heap is tracked -/
theorem raw_new {es : Array DictEntry} {h' : Heap} {t' : Nat} (I : Inv X pins σ H s) (kp : ∀ b o, s.heap.get? b = some o → h'.get? b = some o) (hz : es.size ≤ sizeLine) {o : Obj} {ep : Nat} (he : h'.get? s.heap.objs.size = some o) (hc : o.ExactDict) (ho : o.data = .dict es ep) :
    Inv X pins σ (upd H s.heap.objs.size (RawD s.heap.objs.size es)) { s with heap := h', toks := t' } := by
  have hd : (s.heap.objs.size == sysModules) = false := by
    have lt := I.big
    exact beq_false_of_ne fun e => by rw [e] at lt; exact Nat.lt_irrefl _ lt
  exact I.laid (t' := t') (o := RawD s.heap.objs.size es) kp (Nat.le_refl _) ⟨⟨hd, hz, o, ep, he, hc, ho⟩, ⟨o, he⟩, fun h1 h2 ⟨a1, a2, o1, e1, b1, b2, b3⟩ k => ⟨a1, a2, o1, e1, k _ b1, b2, b3⟩⟩
theorem dputAll_len : ∀ {ps kvs kvs' : List (Dt × Dt)}, dputAll kvs ps = some kvs' → kvs'.length ≤ kvs.length + ps.length
  | [], kvs, kvs', e => by cases e; exact Nat.le_refl _
  | (k, y) :: ps, kvs, kvs', e => by
    unfold dputAll at e
    obtain ⟨kv1, e1, e2⟩ := Option.bind_eq_some_iff.mp e
    obtain ⟨a1, a2, rfl⟩ := dputs_kind e1
    have h1 := dputAll_len e2
    have h2 : (dput kvs k y).length ≤ kvs.length + 1 := by
      unfold dput
      split
      · rw [List.length_map]; omega
      · rw [List.length_append, List.length_singleton]; exact Nat.le_refl _
    rw [List.length_cons]
    omega
/-- the pairs with their keys -/
theorem lie_jt : ∀ {ps : List (Dt × Dt)} {L : List (Addr × Value × Value)} {h : Heap}, PairsLie X H h ps L → (∀ p ∈ ps, tupKey p.1 = true) →
    ∃ xs : List (NestedKey × Addr × Value), JT (RF X.prog X.w X.K H) ps xs ∧ L.map (fun l => (l.2.1, l.2.2)) = xs.map fun x => (.ref x.2.1, x.2.2)
  | [], _, _, .nil, _ => ⟨[], .nil, rfl⟩
  | p :: ps, _, h, .cons (b := l) q1 q2, hk => by
    obtain ⟨xs, j, e⟩ := lie_jt q2 fun q hq => hk q (List.mem_cons_of_mem _ hq)
    obtain ⟨_, x, z, rx, vx, rz, vz⟩ := q1
    obtain ⟨_, ks, e1, _, e2, _⟩ := tupKey_ok (hk p List.mem_cons_self)
    have rx' := rx
    rw [e1, RF] at rx'
    obtain ⟨a, _, rfl, _, _⟩ := rx'
    obtain ⟨l1, l2, l3⟩ := l
    cases vx
    exact ⟨(.tup ks, a, l3) :: xs, .cons ⟨e2, hk p List.mem_cons_self, rx, z, rz, vz⟩ j, by rw [List.map_cons, List.map_cons, e]⟩
theorem lie_jf : ∀ {ps : List (Dt × Dt)} {L : List (Addr × Value × Value)} {h : Heap}, PairsLie X H h ps L → (∀ p ∈ ps, flatKey p.1 = true) →
    ∃ xs : List (Key × Value), JF (RF X.prog X.w X.K H) ps xs ∧ Paired (fun (l : Addr × Value × Value) (x : Key × Value) => l.2.2 = x.2 ∧ (mixKind X.prog X.w).is x.1 l.2.1 = true) L xs
  | [], _, _, .nil, _ => ⟨[], .nil, .nil⟩
  | p :: ps, _, h, .cons (b := l) q1 q2, hk => by
    obtain ⟨xs, j, e⟩ := lie_jf q2 fun q hq => hk q (List.mem_cons_of_mem _ hq)
    obtain ⟨_, x, z, rx, vx, rz, vz⟩ := q1
    obtain ⟨q, e1⟩ := flatKey_ok (hk p List.mem_cons_self)
    have ex : x = kV q := by
      rcases fk_nk e1 with ⟨i, e2, e3⟩ | ⟨i, e2, e3⟩
      · rw [e2, RF] at rx; rw [rx, e3]; rfl
      · rw [e2, RF] at rx; rw [rx, e3]; rfl
    subst ex
    exact ⟨(q, l.2.2) :: xs, .cons ⟨e1, rx, z, rz, vz⟩ j, .cons ⟨rfl, kV_is vx⟩ e⟩
theorem paired_at {α β : Type} {R : α → β → Prop} : ∀ {xs : List α} {ys : List β} {i : Nat} {y : β}, Paired R xs ys → ys[i]? = some y → ∃ x, xs[i]? = some x ∧ R x y
  | _, _, _, _, .nil, e => by simp at e
  | _, _, 0, y, .cons r t, e => by simp at e; subst e; exact ⟨_, rfl, r⟩
  | _, _, i + 1, y, .cons r t, e => by
    obtain ⟨x, e1, e2⟩ := paired_at (i := i) (y := y) t (by simpa using e)
    exact ⟨x, by simpa using e1, e2⟩
theorem dict_new {a : Addr} {ds : List Dt} {vs : List V} {kvs : List (Dt × Dt)} {ps : List (Dt × Dt)} {Q : VK} (hc : X.calm = true) (hu : X.A.units + 20 < cLine) (I : Inv X pins σ H s) (h1 : SqL X.K H a vs) (h2 : RFs X.prog X.w X.K H ds vs) (e1 : pairsOf ds = some ps) (e2 : dputAll [] ps = some kvs)
    (q : RawOut (gx X) H (.dict kvs) Q) : wpAny (model X.prog X.w) X.A (call (.type "dict") [.ref a]) (EP X pins σ Q) X.xe s := by
  obtain ⟨hz, its, n, lo, rv, hl, g, g1, g2, g3⟩ := Inv.rdl I h1
  obtain ⟨L, rfl, lie⟩ := pairs_lie I e1 h2 rv
  have hn : H s.heap.objs.size = none := I.hok.fresh (Nat.le_refl _)
  have lL : L.length = ps.length := (Paired.length lie).symm
  have hzL : L.length ≤ sizeLine := by rw [hl, List.length_map] at hz; exact hz
  let Ts : Nat → Addr := fun j => (L[j]?.map (·.1)).getD 0
  have items : PairItems s.heap (L.map fun l => Value.ref l.1).toArray Ts (L.map fun l => (l.2.1, l.2.2)) := by
    refine ⟨by simp, fun j k v e => ?_⟩
    rw [List.getElem?_map] at e
    obtain ⟨l, hj, e3⟩ := Option.map_eq_some_iff.mp e
    cases e3
    obtain ⟨p, hp, pa, _⟩ := paired_at lie hj
    have eT : Ts j = l.1 := by show (L[j]?.map (·.1)).getD 0 = l.1; rw [hj]; rfl
    refine ⟨?_, by rw [eT]; exact pa⟩
    rw [List.getElem?_toArray, List.getElem?_map, hj, eT]
    rfl
  have P := PairArg.list (prog := X.prog) (w := X.w) a (L.map fun l => Value.ref l.1).toArray Ts (L.map fun l => (l.2.1, l.2.2))
  have okk : PlainSeq "list" s.heap a (L.map fun l => Value.ref l.1).toArray ∧ PairItems s.heap (L.map fun l => Value.ref l.1).toArray Ts (L.map fun l => (l.2.1, l.2.2)) := ⟨⟨lo, n, g, g1, g2, g3⟩, items⟩
  have hd : X.A.handled = none := I.ok.hd hc
  have hle : kvs.length ≤ sizeLine := by
    have := dputAll_len e2
    rw [List.length_nil, ← lL] at this
    omega
  have kind : (∀ p ∈ ps, tupKey p.1 = true) ∨ ∀ p ∈ ps, flatKey p.1 = true := by
    cases ps with
    | nil => exact .inl fun p hp => nomatch hp
    | cons p r =>
      have e2' := e2
      unfold dputAll at e2'
      obtain ⟨kv1, e3, _⟩ := Option.bind_eq_some_iff.mp e2'
      obtain ⟨a1, _, _⟩ := dputs_kind e3
      have a2 : (tupKey p.1 || flatKey p.1) = true := a1
      rw [Bool.or_eq_true] at a2
      rcases a2 with a2 | a2
      · exact .inl (dputAll_tup e2 (fun _ _ z => nomatch z) fun _ q r' z => by injection z with z1 z2; rw [← z1]; exact a2)
      · exact .inr (dputAll_flat e2 (fun _ _ z => nomatch z) fun _ q r' z => by injection z with z1 z2; rw [← z1]; exact a2)
  rcases kind with kt | kf
  · obtain ⟨xs, j, eL⟩ := lie_jt lie kt
    have lx : xs.length = L.length := by rw [lL]; exact (Paired.length j).symm
    have each : ∀ i key v, PairRel (L.map fun l => (l.2.1, l.2.2)) i key v → ∃ k b, xs[i]? = some (k, b, v) ∧ key = .ref b := fun i key v e => by
      have e' : (L.map fun l => (l.2.1, l.2.2))[i]? = some (key, v) := e
      rw [eL, List.getElem?_map] at e'
      obtain ⟨x, hx, e3⟩ := Option.map_eq_some_iff.mp e'
      cases e3
      exact ⟨x.1, x.2.1, hx, rfl⟩
    refine call_dict_pairsH (knd := nestedKind X.prog X.w) (ps := xs) P hd (show X.A.in1.in1.units + 8 < cLine from by show X.A.units + 1 + 1 + 8 < cLine; omega) okk ⟨by rw [lx]; simp, each⟩ ?_ (by simpa using hzL) fun h' tk dd kp => ?_
    · intro h' hk x hx
      have I' : Inv X pins σ H { s with heap := h' } := I.kept (t' := s.toks) fun b o e => hk b o (Nat.ne_of_lt (Heap.lt_size e)) (fun z => nomatch z) e
      obtain ⟨i, hi⟩ := List.getElem?_of_mem hx
      obtain ⟨p, _, b1, b2, b3, _⟩ := paired_at j hi
      obtain ⟨_, ks, _, _, c1, c2⟩ := tupKey_ok b2
      have eq := Option.some.inj (b1.symm.trans c1)
      exact ⟨RF.nest I' _ _ _ _ b1 b3 rfl, by rw [eq]; exact c2⟩
    · obtain ⟨o, es', ep, a1, a2, a3, a4, _, a6⟩ := dd
      have jn := jt_all e2 (F := RF X.prog X.w X.K H) (xs := []) .nil j
      have dj : Dj X.prog X.w (RF X.prog X.w X.K H) kvs es' := .inl ⟨_, a4, a6, jn⟩
      refine ⟨.ref s.heap.objs.size, _, raw_new (t' := tk) I (fun b o e => kp b o (fun z => nomatch z) e) (by rw [dj.size]; exact hle) a1 a2 a3, rfl, ?_⟩
      exact q H _ es' (.refl _) hn dj
  · obtain ⟨xs, j, eL⟩ := lie_jf lie kf
    have lx : xs.length = L.length := by rw [lL]; exact (Paired.length j).symm
    have each : ∀ i key v, PairRel (L.map fun l => (l.2.1, l.2.2)) i key v → ∃ k, xs[i]? = some (k, v) ∧ (mixKind X.prog X.w).is k key = true := fun i key v e => by
      have e' : (L.map fun l => (l.2.1, l.2.2))[i]? = some (key, v) := e
      rw [List.getElem?_map] at e'
      obtain ⟨l, hx, e3⟩ := Option.map_eq_some_iff.mp e'
      cases e3
      obtain ⟨x, hx2, b1, b2⟩ := paired_get eL hx
      exact ⟨x.1, by rw [hx2, b1], b2⟩
    refine call_dict_pairs (knd := mixKind X.prog X.w) (kvs := xs) P hd okk ⟨by rw [lx]; simp, each⟩ (by simpa using hzL) fun h' tk dd kp => ?_
    obtain ⟨o, es', ep, a1, a2, a3, a4, a5, a6⟩ := dd
    have jn := jf_all e2 (F := RF X.prog X.w X.K H) (xs := []) .nil j
    have dj : Dj X.prog X.w (RF X.prog X.w X.K H) kvs es' := .inr ⟨_, a4, a5, a6, jn⟩
    refine ⟨.ref s.heap.objs.size, _, raw_new (t' := tk) I (fun b o e => kp b o (fun z => nomatch z) e) (by rw [dj.size]; exact hle) a1 a2 a3, rfl, ?_⟩
    exact q H _ es' (.refl _) hn dj
theorem cr_dictB (hc : X.calm = true) (hu : X.A.units + 20 < cLine) : CallR X (.type "dict") (rB1 (gx X) .dict) := by
  rintro pins s σ H xs us Q I r ⟨x, d, z, rfl, rt, e, q⟩
  cases d with
  | list ds =>
    obtain ⟨kvs, e1, rfl⟩ := Option.map_eq_some_iff.mp (show ((pairsOf ds).bind fun ps => dputAll [] ps).map PyData.dict = some z from e)
    obtain ⟨ps, e2, e3⟩ := Option.bind_eq_some_iff.mp e1
    obtain ⟨a, vs, rfl, h1, h2⟩ := rt.list
    rw [Vals.ref1 r]
    exact dict_new hc hu I h1 h2 e2 e3 q
  | _ => cases e
end
end EV
end

section
set_option autoImplicit false
set_option linter.all false
set_option maxRecDepth 100000
set_option Elab.async false
/-! EvZ: range, and zip of lists and tuples, mixed. -/
namespace EV
open PySem PySem.Spec
open PyProof.Rows
open L2
/-- a list (false) or a tuple (true) -/
def Sqx (K : PySem.W.Frag) (k : Bool) (H : Hp) (a : Addr) (xs : List V) : Prop := match k with
  | true => SqT K H a xs
  | false => SqL K H a xs
def Itx (k : Bool) (h : Heap) (it a : Addr) (i : Nat) : Prop := match k with
  | true => h.IsTupleIter it a i
  | false => h.IsListIter it a i
def Isx (k : Bool) (h : Heap) (a : Addr) (us : Array Value) : Prop := match k with
  | true => h.IsTuple a us
  | false => h.IsList a us
def obx (k : Bool) (a : Addr) : Obj := match k with
  | true => { cls := .type "tuple_iterator", data := .fields #[.ref a, .int 0 0] }
  | false => { cls := .type "list_iterator", data := .fields #[.ref a, .int 0 0] }
theorem drx {prog : Program} {w : World} {A : Around} (hh : A.handled = none) (k : Bool) (it a : Addr) (hne : a ≠ it) (us : Array Value) :
    Draws prog w A it [it, a] us.size (fun i v => us[i]? = some v) (fun i h => Itx k h it a i ∧ Isx k h a us) := by
  cases k
  · exact Draws.list hh it a hne us
  · exact Draws.tuple hh it a hne us
theorem bgx (k : Bool) (a : Addr) (us : Array Value) : Begins (.ref a) (obx k a) fun h => Isx k h a us := by
  cases k
  · exact begins_list a us
  · exact begins_tuple a us
theorem itx_obj {k : Bool} {h : Heap} {it a : Addr} {i : Nat} (q : Itx k h it a i) : ∃ o, h.get? it = some o ∧ ∀ v, o.data ≠ .cell v := by
  cases k
  · obtain ⟨o, e, _, d⟩ := (show h.IsListIter it a i from q)
    exact ⟨o, e, fun v z => by rw [d] at z; cases z⟩
  · obtain ⟨o, e, _, d⟩ := (show h.IsTupleIter it a i from q)
    exact ⟨o, e, fun v z => by rw [d] at z; cases z⟩
theorem itx_at {k : Bool} {h h' : Heap} {it a : Addr} {i : Nat} (q : Itx k h it a i) (f : ∀ o, h.get? it = some o → h'.get? it = some o) : Itx k h' it a i := by
  cases k
  · exact (show h.IsListIter it a i from q).at f
  · exact (show h.IsTupleIter it a i from q).at f
theorem itx_zero {k : Bool} {h : Heap} {it a : Addr} (e : h.get? it = some (obx k a)) : Itx k h it a 0 := by
  cases k
  · exact ⟨_, e, rfl, rfl⟩
  · exact ⟨_, e, rfl, rfl⟩
section
variable {X : Cx} {pins : List (Addr × Obj)} {σ : L2.St} {H H' : Hp} {s : Shared} {k : Bool} {a : Addr} {xs ys : List V}
theorem sqx_at (I : Inv X pins σ H s) (q : Sqx X.K k H a xs) : ∃ us : List Value, Vals xs us ∧ Isx k s.heap a us.toArray ∧ a < s.heap.objs.size ∧ xs.length ≤ sizeLine := by
  cases k
  · obtain ⟨us, rv, p, hz⟩ := I.list q
    exact ⟨us, rv, p.isList, p.lt, hz⟩
  · obtain ⟨us, rv, p, hz⟩ := I.tuple q
    have p' : s.heap.IsTuple a us.toArray := p
    obtain ⟨o, e, _⟩ := id p'
    exact ⟨us, rv, p', Heap.lt_size e, hz⟩
theorem sqx_one (I : Inv X pins σ H s) (q : Sqx X.K k H a xs) (r : Sqx X.K k H a ys) : xs = ys := by
  cases k
  · exact I.list_inj q r
  · exact I.tuple_inj q r
end
/-- what lies at a and b as it stands at each turn, in new pairs -/
def Itm (K : PySem.W.Frag) (k l : Bool) (a b : Addr) : It where
  go i H := ∃ (xs ys : List V) (x y : V), Sqx K k H a xs ∧ Sqx K l H b ys ∧ xs[i]? = some x ∧ ys[i]? = some y
  yld i H v H' := ∃ T x y, v = .ref T ∧ H T = none ∧ H' = upd H T (.tup [x, y]) ∧ (∀ xs, Sqx K k H a xs → xs[i]? = some x) ∧ ∀ ys, Sqx K l H b ys → ys[i]? = some y
  stop i H := ∃ xs ys : List V, Sqx K k H a xs ∧ Sqx K l H b ys ∧ i = min xs.length ys.length
/-- where the five objects of a zip lie -/
structure Apart (N z TI TO i1 i2 a b : Nat) : Prop where
  hz : z = N + 4
  hTI : TI = N + 2
  hTO : TO = N + 3
  h1 : i1 = N
  h2 : i2 = N + 1
  ha : a < N
  hb : b < N
theorem turn_mix {P : Program} {w : World} {K : PySem.W.Frag} {elts : List Expr} {kk : Nat} {tpos : Pos} {k l : Bool} {a b N : Nat} (ha : a < N) (hb : b < N) :
    Turn P w K (.Tuple elts kk tpos) (Itm K k l a b) [N + 4, N + 2, N + 3, N, N + 1] (N + 4)
      (fun i h => IsZip h (N + 4) (N + 2) (N + 3) .none ∧ IsTupOf2 h (N + 2) (.ref N) (.ref (N + 1)) ∧ (∃ x y, IsTupOf2 h (N + 3) x y) ∧ Itx k h N a i ∧ Itx l h (N + 1) b i) where
  mem := List.mem_cons_self ..
  obj := fun i h st c hc => by
    obtain ⟨hz, hTI, ⟨x, y, hTO⟩, h1, h2⟩ := st
    simp only [List.mem_cons, List.not_mem_nil, or_false] at hc
    rcases hc with rfl | rfl | rfl | rfl | rfl
    · exact ⟨_, hz, fun v q => nomatch q⟩
    · exact ⟨_, hTI, fun v q => nomatch q⟩
    · exact ⟨_, hTO, fun v q => nomatch q⟩
    · exact itx_obj h1
    · exact itx_obj h2
  keep := fun i h h' st f => by
    obtain ⟨hz, hTI, ⟨x, y, hTO⟩, h1, h2⟩ := st
    exact ⟨f _ (by simp) _ hz, f _ (by simp) _ hTI, ⟨x, y, f _ (by simp) _ hTO⟩, itx_at h1 (f _ (by simp)), itx_at h2 (f _ (by simp))⟩
  item := by
    intro X e1 e2 e3 calm i pins s σ H E I fp st hg
    subst e1 e2 e3
    obtain ⟨hz, hTI, ⟨x0, y0, hTO⟩, h1, h2⟩ := st
    obtain ⟨xs, ys, x, y, qx, qy, hx, hy⟩ := hg
    obtain ⟨us, rv, p, la, _⟩ := sqx_at I qx
    obtain ⟨us2, rv2, p2, lb, _⟩ := sqx_at I qy
    have hh : X.A.in1.handled = none := I.ok.hd calm
    obtain ⟨u, hu, ru⟩ := rv.get hx
    obtain ⟨u2, hu2, ru2⟩ := rv2.get hy
    have D1 := drx (prog := X.prog) (w := X.w) hh k N a (Nat.ne_of_lt ha) us.toArray
    have D2 := drx (prog := X.prog) (w := X.w) hh l (N + 1) b (Nat.ne_of_lt (Nat.lt_succ_of_lt hb)) us2.toArray
    have S := zip_sep2 (N := N) (fp1 := [a]) (fp2 := [b]) (fun c hc => by rw [List.mem_singleton.mp hc]; exact ha) (fun c hc => by rw [List.mem_singleton.mp hc]; exact hb)
    have l1 : i < us.toArray.size := by rw [List.size_toArray]; exact (List.getElem?_eq_some_iff.mp hu).1
    have l2 : i < us2.toArray.size := by rw [List.size_toArray]; exact (List.getElem?_eq_some_iff.mp hu2).1
    have zl : N + 4 < s.heap.objs.size := Heap.lt_size hz
    refine wpAny_pyNext_zipD2_item S D1 D2 hz hTI hTO ⟨h1, p⟩ ⟨h2, p2⟩ l1 l2 fun v1 v2 h' tk hv1 hv2 z' TO' s1' s2' hT hsz kp => ?_
    rw [List.getElem?_toArray, hu] at hv1
    rw [List.getElem?_toArray, hu2] at hv2
    cases hv1
    cases hv2
    refine ⟨_, rfl, wpAny_letOwnedTupleGo_zip (s := { s with heap := h', toks := tk }) z' fun h'' z'' sb => ?_⟩
    have hT2 : h''.get? s.heap.objs.size = some { cls := .type "tuple", data := .seq #[u, u2] } := (sb.2 _ (Nat.ne_of_gt zl)).trans hT
    have nw : ObjOk X.prog X.w (upd H s.heap.objs.size (.tup [x, y])) h'' s.heap.objs.size (.tup [x, y]) :=
      ⟨by rw [sizeLine_eq]; simp, [u, u2], .cons ru (.cons ru2 .nil), _, hT2, rfl, _, rfl⟩
    have five : ∀ c : Addr, c ∉ [N + 4, N + 2, N + 3, N, N + 1] → c ≠ N + 4 ∧ c ≠ N + 3 ∧ c ≠ N ∧ c ≠ N + 1 := fun c hc => by
      simp only [List.mem_cons, List.not_mem_nil, or_false, not_or] at hc
      exact ⟨hc.1, hc.2.2.1, hc.2.2.2.1, hc.2.2.2.2⟩
    have I1 : Inv X pins σ (upd H s.heap.objs.size (.tup [x, y])) { s with heap := h'', toks := tk } :=
      I.turnedNew (ch := [N + 4, N + 2, N + 3, N, N + 1]) (fun c o hc e => (sb.2 c (five c hc).1).trans (kp c o (five c hc).1 (five c hc).2.1 (five c hc).2.2.1 (five c hc).2.2.2 e)) fp (Nat.le_refl _) nw
    have n1 : (N + 2 : Nat) ≠ N + 4 := by omega
    have n2 : (N + 2 : Nat) ≠ N + 3 := by omega
    have n3 : (N + 2 : Nat) ≠ N := by omega
    have n4 : (N + 2 : Nat) ≠ N + 1 := by omega
    refine ⟨.ref s.heap.objs.size, _, I1, rfl, ⟨_, x, y, rfl, I.hok.fresh (Nat.le_refl _), rfl, fun m hm => by rw [sqx_one I hm qx]; exact hx, fun m hm => by rw [sqx_one I hm qy]; exact hy⟩, ⟨z'', (sb.2 _ n1).trans (kp _ _ n1 n2 n3 n4 hTI), ⟨u, u2, (sb.2 _ (show (N + 3 : Nat) ≠ N + 4 by omega)).trans TO'⟩,
      itx_at s1'.1 fun o q => (sb.2 _ (show (N : Nat) ≠ N + 4 by omega)).trans q, itx_at s2'.1 fun o q => (sb.2 _ (show (N + 1 : Nat) ≠ N + 4 by omega)).trans q⟩, fun c hc => ?_⟩
    have lt : c < s.heap.objs.size := by
      simp only [List.mem_cons, List.not_mem_nil, or_false] at hc
      rcases hc with e | e | e | e | e <;> rw [e] <;> first | exact zl | exact Nat.lt_of_le_of_lt (Nat.le_add_right N 4) zl | exact Nat.lt_of_le_of_lt (Nat.add_le_add_left (by decide) N) zl
    rw [upd_ne (Nat.ne_of_lt lt)]
    exact (fp c hc).1
  done := by
    intro X e1 e2 e3 calm i pins s σ H E I fp st hg
    subst e1 e2 e3
    obtain ⟨hz, hTI, ⟨x0, y0, hTO⟩, h1, h2⟩ := st
    obtain ⟨xs, ys, qx, qy, rfl⟩ := hg
    obtain ⟨us, rv, p, la, _⟩ := sqx_at I qx
    obtain ⟨us2, rv2, p2, lb, _⟩ := sqx_at I qy
    have hh : X.A.in1.handled = none := I.ok.hd calm
    have D1 := drx (prog := X.prog) (w := X.w) hh k N a (Nat.ne_of_lt ha) us.toArray
    have D2 := drx (prog := X.prog) (w := X.w) hh l (N + 1) b (Nat.ne_of_lt (Nat.lt_succ_of_lt hb)) us2.toArray
    have S := zip_sep2 (N := N) (fp1 := [a]) (fp2 := [b]) (fun c hc => by rw [List.mem_singleton.mp hc]; exact ha) (fun c hc => by rw [List.mem_singleton.mp hc]; exact hb)
    have e1 : us.toArray.size = xs.length := by rw [List.size_toArray, ← rv.length]
    have e2 : us2.toArray.size = ys.length := by rw [List.size_toArray, ← rv2.length]
    refine wpAny_pyNext_zipD2_end S D1 D2 hz hTI hTO ⟨h1, p⟩ ⟨h2, p2⟩ (by rw [e1]; omega) (by rw [e2]; omega) (by rw [e1, e2]; omega) fun h' tk kp => ⟨rfl, ?_⟩
    refine I.turnedL (ch := [N + 4, N + 2, N + 3, N, N + 1]) (fun c o hc e => ?_) fp
    simp only [List.mem_cons, List.not_mem_nil, or_false, not_or] at hc
    exact kp c o hc.1 hc.2.2.1 hc.2.2.2.1 hc.2.2.2.2 e
  self := fun A i s Q E st h => wpAny_pyIter_zip st.1 h
/-- zip, by values -/
def iMix (K : PySem.W.Frag) (ta : TA) : TI := fun σ H R => ta σ H fun vs H1 => ∃ k l a b xs ys, vs = [.ref a, .ref b] ∧ Sqx K k H1 a xs ∧ Sqx K l H1 b ys ∧ (xs.length ≤ sizeLine → R (Itm K k l a b) H1)
theorem pi_mix {X : Cx} {e f : Expr} {ta : TA} {p pos tpos : Pos} {elts : List Expr} {kk : Nat} (hg : Gl X "zip") (hm : X.mg "zip" = none) (hargs : PA X [e, f] ta)
    (hs : starEach [e, f] X.env = (false, eval e X.env) :: starEach [f] X.env) (hpl : (backTo pos (starEach [f] X.env)).any (·.1) = false) : PI X (.Tuple elts kk tpos) (.Call (.Name "zip" p) [e, f] [] pos) (iMix X.K ta) := by
  refine ⟨fun pins s σ H R I h => Call_ (ld_blt I hg hm PyProof.Rows.boot_zip (PyProof.Rows.callWith_type1 (thn (hargs.run pos pins s σ H _ I h) fun us s1 ⟨vs, H1, I1, r1, q1⟩ => ?_) hs hpl))⟩
  obtain ⟨k, l, a, b, xs, ys, rfl, qx, qy, q⟩ := q1
  obtain ⟨v1, v2, rfl, w1, w2⟩ := vals2 r1
  cases w1
  cases w2
  obtain ⟨us, rv, p1, la, hz1⟩ := sqx_at I1 qx
  obtain ⟨us2, rv2, p2, lb, _⟩ := sqx_at I1 qy
  refine zip_begins2 (bgx k a us.toArray) (bgx l b us2.toArray) p1 p2 fun h' hz hTI hTO g1 g2 hsz kp => wpAny_pyIter_zip hz ?_
  have I2 : Inv X pins σ H1 { s1 with heap := h' } := I1.kept (t' := s1.toks) kp
  refine ⟨s1.heap.objs.size + 4, _, _, _, H1, rfl, I2, turn_mix (k := k) (l := l) la lb, ⟨hz, hTI, ⟨_, _, hTO⟩, itx_zero g1, itx_zero g2⟩, fun c hc => ?_, q hz1⟩
  have le : s1.heap.objs.size ≤ c := by
    simp only [List.mem_cons, List.not_mem_nil, or_false] at hc
    rcases hc with rfl | rfl | rfl | rfl | rfl <;> first | exact Nat.le_add_right _ _ | exact Nat.le_refl _
  exact I1.fpOk le (I1.hok.fresh le)
end EV
end

section
set_option autoImplicit false
set_option linter.all false
set_option maxRecDepth 100000
set_option Elab.async false
/-! EvI: what loops go through: range, zip. -/
namespace EV
open PySem PySem.Spec
open PyProof.Rows
open L2
section
variable {G : Wd} {μ : Loc_} {st : Sto} {H : Hp}
def isTup : Dt → Bool
  | .tuple _ => true
  | _ => false
theorem seq_at {d : Dt} {ds : List Dt} {x : V} (r : RT G H d x) (e : seqD d = some ds) : ∃ a vs, x = .ref a ∧ Sqx G.K (isTup d) H a vs ∧ G.Fs H ds vs := by
  cases d with
  | list xs =>
    cases e
    obtain ⟨a, vs, rfl, h1, h2⟩ := r.list
    exact ⟨a, vs, rfl, h1, h2⟩
  | tuple xs =>
    cases e
    obtain ⟨a, vs, rfl, h1, h2⟩ := r.tuple
    exact ⟨a, vs, rfl, h1, h2⟩
  | _ => cases e
theorem look_held {v : Val} {st' : Sto} {gs : List Nat} (h : Held gs st st') (g : ∀ n ∈ guard1 v, n ∈ gs) : EV.look st' v = EV.look st v := by
  cases v with
  | ref n =>
    have := h n (g n (List.mem_singleton.mpr rfl))
    show (st'[n]?).bind Cell.dat = (st[n]?).bind Cell.dat
    rw [this]
  | _ => rfl
end
section
variable {X : Cx} {C : Ctx} {W : WX} {a b : Expr} {ma mb : Env → M Val} {pos pf tpos : Pos} {elts : List Expr} {kk : Nat} {tg : Expr}
theorem jok_mix {μ : Loc_} {st : Sto} {H : Hp} {v w : Val} {d d' : Dt} {xs ys : List Dt} {p q : Addr} (rv : RV (gx X) μ st H v (.ref p)) (rw' : RV (gx X) μ st H w (.ref q)) (e1 : EV.look st v = some d) (e2 : EV.look st w = some d') (s1 : seqD d = some xs) (s2 : seqD d' = some ys) (hz : xs.length ≤ sizeLine) :
    JOk (gx X) (Itm X.K (isTup d) (isTup d') p q) ((xs.zip ys).map fun p => .d (.tuple [p.1, p.2])) (guard1 v ++ guard1 w) μ st H := by
  refine ⟨by rw [List.length_map, List.length_zip]; omega, fun μ' st' H' s sr hd => ?_⟩
  have f1 : EV.look st' v = some d := by rw [look_held hd fun n hn => List.mem_append_left _ hn]; exact e1
  have f2 : EV.look st' w = some d' := by rw [look_held hd fun n hn => List.mem_append_right _ hn]; exact e2
  obtain ⟨p', vs, ep, sq1, r1⟩ := seq_at (sr.look (rv.adv s) f1) s1
  obtain ⟨q', ws, eq, sq2, r2⟩ := seq_at (sr.look (rw'.adv s) f2) s2
  cases ep
  cases eq
  refine ⟨fun i z ez => ?_, ?_⟩
  · rw [List.getElem?_map] at ez
    obtain ⟨⟨x, y⟩, ez0, rfl⟩ := Option.map_eq_some_iff.mp ez
    have ez2 := List.getElem?_zip_eq_some.mp ez0
    obtain ⟨x', hx, rx⟩ := r1.get ez2.1
    obtain ⟨y', hy, ry⟩ := r2.get ez2.2
    refine ⟨⟨vs, ws, x', y', sq1, sq2, hx, hy⟩, fun z H'' yl => ?_⟩
    obtain ⟨T, u1, u2, rfl, hn, rfl, g1, g2⟩ := yl
    have h1 := g1 vs sq1
    have h2 := g2 ws sq2
    rw [hx] at h1
    rw [hy] at h2
    cases h1
    cases h2
    have gr : Grown H' (upd H' T (.tup [x', y'])) := .new hn
    refine ⟨gr, ?_⟩
    have m : ∀ b o, H' b = some o → Fz o → upd H' T (.tup [x', y']) b = some o := fun b o e _ => gr b o e
    show RF _ _ _ _ _ _
    rw [RF]
    exact ⟨T, [x', y'], rfl, .inl (.inl upd_same), RFs.cons (RF.mono m _ _ rx) (RFs.one (RF.mono m _ _ ry))⟩
  · exact ⟨vs, ws, sq1, sq2, by rw [List.length_map, List.length_zip, r1.length, r2.length]⟩
theorem i_zip (hg : Gl X "zip") (hm : X.mg "zip" = none) (ha : PE X a (RdE (gx X) W ma)) (hb : PE X b (RdE (gx X) W mb))
    (hs : starEach [a, b] X.env = (false, eval a X.env) :: starEach [b] X.env) (hs2 : starEach [b] X.env = (false, eval b X.env) :: starEach [] X.env) (hpl : (backTo pos (starEach [b] X.env)).any (·.1) = false) :
    PI X (.Tuple elts kk tpos) (.Call (.Name "zip" pf) [a, b] [] pos) (RdI (gx X) W fun ρ => bnd (ma ρ) fun v => bnd (mb ρ) fun w => zipV v w) :=
  (pi_mix hg hm (a_cons ha (a_cons hb a_nil hs2) hs) hs hpl).imp fun σ H R h => by
    obtain ⟨ρ, st, μ, en, sr, p⟩ := h
    refine ⟨ρ, st, μ, en, sr, Post.arg2 p fun v w μ1 st1 H1 s1 sr1 q1 xs rx => ?_⟩
    cases rx with
    | cons r1 r2 =>
      cases r2 with
      | cons r2 r3 =>
        cases r3
        unfold zipV at q1
        split at q1
        · rename_i xs ys e1 e2
          obtain ⟨d, e1, s1'⟩ := Option.bind_eq_some_iff.mp e1
          obtain ⟨d', e2, s2'⟩ := Option.bind_eq_some_iff.mp e2
          obtain ⟨p', vs, rfl, sq1, f1⟩ := seq_at (sr1.look r1 e1) s1'
          obtain ⟨q', ws, rfl, sq2, f2⟩ := seq_at (sr1.look r2 e2) s2'
          exact ⟨_, _, p', q', vs, ws, rfl, sq1, sq2, fun hz => Post.ok (a := (_, _)) sr1 q1 _ (jok_mix r1 r2 e1 e2 s1' s2' (by rw [f1.length]; exact hz))⟩
        · exact q1.elim
theorem jok_rng {μ : Loc_} {st : Sto} {H : Hp} {lo : Int} {n : Nat} (hz : n ≤ sizeLine) : JOk (gx X) (Itr lo n) ((List.range n).map fun i => .d (.int (lo + (i : Nat)))) [] μ st H := by
  refine ⟨by simpa using hz, fun μ' st' H' s sr _ => ⟨fun i v e => ?_, by show _ ≤ _; simp⟩⟩
  rw [List.getElem?_map] at e
  obtain ⟨j, e1, rfl⟩ := Option.map_eq_some_iff.mp e
  obtain ⟨hi, ej⟩ := List.getElem?_eq_some_iff.mp e1
  rw [List.getElem_range] at ej
  subst ej
  refine ⟨by show _ < _; simpa using hi, fun x H'' y => ?_⟩
  obtain ⟨rfl, rfl⟩ := y
  exact ⟨.refl _, by show RF _ _ _ _ _ _; rw [RF]⟩
theorem rngV_inv {x y : Dt} {st : Sto} : (∃ i j : Int, x = .int i ∧ y = .int j ∧ (-(2 ^ 62) ≤ i ∧ i < 2 ^ 62 ∧ -(2 ^ 62) ≤ j ∧ j < 2 ^ 62) ∧ (j - i).toNat ≤ sizeLine ∧
    rngV x y st = .ok ((List.range (j - i).toNat).map fun n => .d (.int (i + (n : Nat))), []) st) ∨ rngV x y st = .bad := by
  unfold rngV
  split
  · rename_i i j
    split
    · rename_i h
      simp only [Bool.and_eq_true, decide_eq_true_eq] at h
      exact .inl ⟨i, j, rfl, rfl, ⟨h.1.1.1.1, h.1.1.1.2, h.1.1.2, h.1.2⟩, fits_iff h.2, rfl⟩
    · exact .inr rfl
  · exact .inr rfl
theorem i_rg1 (hg : Gl X "range") (hm : X.mg "range" = none) (ha : PE X a (RdE (gx X) W ma)) (hs : starEach [a] X.env = (false, eval a X.env) :: starEach [] X.env) (hs' : starEach [a] X.env = [(false, eval a X.env)]) :
    PI X tg (.Call (.Name "range" pf) [a] [] pos) (RdI (gx X) W fun ρ => bnd (ma ρ) fun v => bnd (pureD v) fun x => rngV (.int 0) x) :=
  (pi_range1 hg hm (a_cons ha a_nil hs) hs').imp fun σ H R h => by
    obtain ⟨ρ, st, μ, en, sr, p⟩ := h
    refine ⟨ρ, st, μ, en, sr, Post.arg1 p fun v μ1 st1 H1 s1 sr1 q1 xs rx => ?_⟩
    cases rx with
    | cons r1 r2 =>
      cases r2
      obtain ⟨d, rfl, q3⟩ := q1.pureD
      rcases rngV_inv (x := .int 0) (y := d) (st := st1) with ⟨i, j, e1, rfl, hb, hz, e⟩ | e
      · cases e1
        rw [e] at q3
        have r1' := RT.int (G := gx X) (H := H1) (.of r1)
        subst r1'
        have q2 := Post.ok (a := (_, _)) sr1 q3
        have ej : (j - 0).toNat = j.toNat := by rw [Int.sub_zero]
        have jr := jok_rng (X := X) (μ := μ1) (st := st1) (H := H1) (lo := 0) hz
        have q4 := q2 _ jr
        rw [ej] at q4
        exact ⟨j, rfl, hb.2.2.1, hb.2.2.2, q4⟩
      · rw [e] at q3; exact q3.elim
theorem i_rg2 (hg : Gl X "range") (hm : X.mg "range" = none) (ha : PE X a (RdE (gx X) W ma)) (hb : PE X b (RdE (gx X) W mb)) (hs : starEach [a, b] X.env = (false, eval a X.env) :: starEach [b] X.env) (hs2 : starEach [b] X.env = (false, eval b X.env) :: starEach [] X.env)
    (hs3 : starEach [a, b] X.env = [(false, eval a X.env), (false, eval b X.env)]) (hs4 : starEach [b] X.env = [(false, eval b X.env)]) :
    PI X tg (.Call (.Name "range" pf) [a, b] [] pos) (RdI (gx X) W fun ρ => bnd (ma ρ) fun v => bnd (mb ρ) fun w => bnd (pureD v) fun x => bnd (pureD w) fun y => rngV x y) :=
  (pi_range2 hg hm (a_cons ha (a_cons hb a_nil hs2) hs) hs3 hs4).imp fun σ H R h => by
    obtain ⟨ρ, st, μ, en, sr, p⟩ := h
    refine ⟨ρ, st, μ, en, sr, Post.arg2 p fun v w μ1 st1 H1 s1 sr1 q1 xs rx => ?_⟩
    cases rx with
    | cons r1 r2 =>
      cases r2 with
      | cons r2 r3 =>
        cases r3
        obtain ⟨d, rfl, q2⟩ := q1.pureD
        obtain ⟨d', rfl, q3⟩ := q2.pureD
        rcases rngV_inv (x := d) (y := d') (st := st1) with ⟨i, j, rfl, rfl, hb, hz, e⟩ | e
        · rw [e] at q3
          have r1' := RT.int (G := gx X) (H := H1) (.of r1)
          subst r1'
          have r2' := RT.int (G := gx X) (H := H1) (.of r2)
          subst r2'
          exact ⟨i, j, rfl, hb, Post.ok (a := (_, _)) sr1 q3 _ (jok_rng hz)⟩
        · rw [e] at q3; exact q3.elim
end
end EV
end

section
set_option autoImplicit false
set_option linter.all false
set_option maxRecDepth 100000
set_option Elab.async false
/-! EvV: objects that come to rest; the values of a dict; list(range(n)). -/
namespace EV
open PySem PySem.Spec
open PyProof.Rows
open L2
section
variable {X : Cx} {C : Ctx} {W : WX} {a b : Expr} {ma mb : Env → M Val} {pos pf apos cpos p2 : Pos}
theorem set_self {st : Sto} {n : Nat} {c : Cell} (e : st[n]? = some c) : st.set n c = st := by
  obtain ⟨h, e'⟩ := List.getElem?_eq_some_iff.mp e
  rw [← e']
  exact List.set_getElem_self h
/-- an object comes to rest -/
theorem e_frz (ha : PE X a (RdE (gx X) W ma)) : PE X a (RdE (gx X) W fun ρ => bnd (ma ρ) freeze) :=
  ha.restR.imp fun σ H Q h => by
    obtain ⟨ρ, st, μ, en, sr, p⟩ := h
    refine ⟨ρ, st, μ, en, sr, (Post.bnd p).imp fun v μ1 st1 H1 s1 sr1 q1 x rx => ?_⟩
    cases v with
    | d y => exact .inl (Post.ok (a := Val.d y) sr1 q1 x rx)
    | err c fs => exact .inl (Post.ok (a := Val.err c fs) sr1 q1 x rx)
    | fn f => exact .inl (Post.ok (a := Val.fn f) sr1 q1 x rx)
    | ref n =>
      obtain ⟨hn, rfl⟩ := rx
      cases c : st1[n]? with
      | none =>
        have q2 : Post (gx X) (fun c d H' => W c d σ H') μ1 st1 H1 (match (st1[n]?).bind Cell.dat2 with | some x => Res.ok (Val.d x) (st1.set n (.fz x)) | none => .bad) _ := q1
        rw [c] at q2
        exact q2.elim
      | some k =>
        have q2 : Post (gx X) (fun c d H' => W c d σ H') μ1 st1 H1 (match (st1[n]?).bind Cell.dat2 with | some x => Res.ok (Val.d x) (st1.set n (.fz x)) | none => .bad) _ := q1
        rw [c] at q2
        have ck := sr1.cell n k c
        cases k with
        | fz y =>
          have q3 : Post (gx X) (fun c d H' => W c d σ H') μ1 st1 H1 (Res.ok (Val.d y) (st1.set n (.fz y))) _ := q2
          rw [set_self c] at q3
          exact .inl (Post.ok sr1 q3 _ ck)
        | lst xs =>
          obtain ⟨vs, h1, h2⟩ := ck
          refine .inr ⟨μ1 n, .lst vs, rfl, h1, trivial, fun ob => ?_⟩
          have stp : Step μ1 st1 H1 μ1 (st1.set n (.fz (.list xs))) (upd H1 (μ1 n) (.frz ob (.lst vs))) := Step.put sr1 c rfl
          have rf : RF X.prog X.w X.K (upd H1 (μ1 n) (.frz ob (.lst vs))) (.list xs) (.ref (μ1 n)) := by
            rw [RF]
            exact ⟨_, vs, rfl, ⟨ob, upd_same⟩, RFs.mono stp.fz xs vs h2⟩
          exact q2 μ1 _ stp (sr1.put c rfl rf) _ rf
        | dct kvs =>
          obtain ⟨es, vs, h1, h2, h3⟩ := ck
          refine .inr ⟨μ1 n, RawD (μ1 n) es, rfl, h1, trivial, fun ob => ?_⟩
          have stp : Step μ1 st1 H1 μ1 (st1.set n (.fz (.dict kvs))) (upd H1 (μ1 n) (.frz ob (RawD (μ1 n) es))) := Step.put sr1 c rfl
          obtain ⟨vs', t1, t2⟩ := ((Dj.of h2 h3).map fun d v r => RF.mono stp.fz d v r).to
          have rf : RF X.prog X.w X.K (upd H1 (μ1 n) (.frz ob (RawD (μ1 n) es))) (.dict kvs) (.ref (μ1 n)) := by
            rw [RF]
            exact ⟨_, ob, es, vs', rfl, upd_same, t1, t2⟩
          exact q2 μ1 _ stp (sr1.put c rfl rf) _ rf
        | lsv xs => exact q2.elim
        | dcv xs => exact q2.elim
        | kl xs => exact q2.elim
/-- what is wanted of a call's argument -/
theorem b1_one {f : B1} {m : Nat} {σ : L2.St} {H : Hp} {Q : VK} (h : RdE (gx X) W (fun ρ => bnd (ma ρ) fun v => bnd (dat v) fun x => bnd (opt (b1D f x)) fun z => fresh m z) σ H Q) :
    RdE (gx X) W ma σ H fun x H1 => ∃ d z, RT (gx X) H1 d x ∧ b1D f d = some z ∧ RawOut (gx X) H1 z (restR Q) := rd1 h fun v μ st H1 x sr rx p => by
  obtain ⟨d, e, p⟩ := p.dat
  obtain ⟨z, e2, p⟩ := p.opt
  exact ⟨d, z, sr.look rx e, e2, raw_fresh sr p⟩
/-- o.values() -/
theorem ev_values {te : TE} {pins : List (Addr × Obj)} {s : Shared} {σ : L2.St} {H : Hp} {F : List (Dt × Dt) → Hp → Prop} (he : PE X a te) (hbase : attributeBase a "values" X.env (eval a X.env) = eval a X.env) (hline : (apos.endLine == cpos.line) = true) (I : Inv X pins σ H s)
    (h : te σ H fun x H1 => ∃ kvs, RT (gx X) H1 (.dict kvs) x ∧ F kvs H1) :
    wpAny (model X.prog X.w) X.A (eval (.Call (.Attribute a "values" apos) [] [] cpos) X.env) (fun v s1 => ∃ r d es ep kvs H1, v = .ref r ∧ Inv X pins σ H1 s1 ∧ s1.heap.IsValuesView r d ∧ s1.heap.DictRaw d es ep ∧ es.size ≤ sizeLine ∧
      Dj X.prog X.w (RF X.prog X.w X.K H1) kvs es ∧ F kvs H1) X.xe s := by
  refine wpAny_Call_method (T := "dict") (id := "dict.values") hbase rfl hline PySem.F.plainAttrs_dict PySem.F.slot_dict_values PySem.F.type_dict_values (thn (he.run pins s σ H _ I h) fun u s1 ⟨x, H1, I1, rx, kvs, rt, f⟩ => ?_)
  obtain ⟨d, rfl, es, e1, dj⟩ := rt.dd
  cases rx
  obtain ⟨hd, hz, o, ep, g1, g2, g3⟩ := raw_of I1 e1
  have dr : s1.heap.DictRaw d es ep := ⟨o, g1, g2, g3⟩
  refine ⟨⟨o, g1, g2.1⟩, fun b eb => ?_, ?_⟩
  · cases eb
    exact ⟨o, g1, g2.2.1⟩
  · exact method_meetsIn PySem.F.slot_dict_values PySem.F.entry_dict_values rfl (PySem.evalArgs_none ⟨rfl, dr.typeIs, PySem.F.args_dict_values_1 _, _, meets_dict_values_raw d hd, ⟨es, ep, dr⟩,
      ⟨s1.heap.objs.size, d, es, ep, kvs, H1, rfl, I1.kept (t' := s1.toks) fun b ob q => Heap.get?_push_of_some _ q, ⟨_, Heap.get?_push_size _ rfl, rfl, rfl⟩, dr.push _, hz, dj, f⟩⟩)
theorem e_listvals {m : Nat} (hc : X.calm = true) (hg : Gl X "list") (hm : X.mg "list" = none) (ha : PE X a (RdE (gx X) W ma)) (hbase : attributeBase a "values" X.env (eval a X.env) = eval a X.env) (hline : (apos.endLine == cpos.line) = true)
    (na : starEach [.Call (.Attribute a "values" apos) [] [] cpos] X.env = (false, eval (.Call (.Attribute a "values" apos) [] [] cpos) X.env) :: starEach [] X.env) (hpl : (backTo pos (starEach [] X.env)).any (·.1) = false) :
    PE X (.Call (.Name "list" pf) [.Call (.Attribute a "values" apos) [] [] cpos] [] pos) (RdE (gx X) W fun ρ => bnd (ma ρ) fun v => bnd (dat v) fun x => bnd (opt (b1D .listvals x)) fun z => fresh m z) := by
  refine ⟨fun pins s σ H Q I h => thn (Q := EP X pins σ (restR Q)) ?_ fun _ _ e => EP.restR e⟩
  refine Call_ (ld_blt I hg hm PyProof.Rows.boot_list (PyProof.Rows.callWith_type1 (PyProof.Rows.args_cons ?_ na) na hpl))
  refine thn (ev_values (F := fun kvs H1 => RawOut (gx X) H1 (.list (kvs.map (·.2))) (restR Q)) ha hbase hline I ?_) fun v s1 ⟨r, d, es, ep, kvs, H1, ev, I1, vw, dr, hz, dj, q⟩ => PyProof.Rows.args_nil ?_
  · obtain ⟨ρ, st, μ, en, sr, p⟩ := b1_one h
    refine ⟨ρ, st, μ, en, sr, p.imp fun v μ1 st1 H1 s1 sr1 g x rx => ?_⟩
    obtain ⟨dd, z, rt, e, q⟩ := g x rx
    cases dd with
    | dict kvs => cases e; exact ⟨kvs, rt, q⟩
    | _ => cases e
  · subst ev
    refine PySem.W.kdl_call (KdlSrc.rawValues (es := es) (ep := ep)) (I1.ok.hd hc) ⟨vw, dr⟩ hz fun h' tk acc c' kp e2 it => ?_
    obtain ⟨vs, rs, rv⟩ := dj_vals dj it
    have hn : H1 s1.heap.objs.size = none := I1.hok.fresh (Nat.le_refl _)
    refine ⟨.ref s1.heap.objs.size, _, I1.laid (t' := tk) (o := .lst vs) kp (Nat.le_refl _) (show ObjOk X.prog X.w _ _ _ (.lst vs) from ⟨?_, acc.toList, c', rv, by rw [Array.toArray_toList]; exact e2⟩), rfl, q H1 _ vs (.refl _) hn rs⟩
    rw [← rs.length, List.length_map, ← dj.size]
    exact hz
theorem e_sortedvals {m : Nat} (hc : X.calm = true) (hu : X.A.units + 70 < cLine) (hg : Gl X "sorted") (hm : X.mg "sorted" = none) (ha : PE X a (RdE (gx X) W ma)) (hbase : attributeBase a "values" X.env (eval a X.env) = eval a X.env) (hline : (apos.endLine == cpos.line) = true)
    (na : starEach [.Call (.Attribute a "values" apos) [] [] cpos] X.env = (false, eval (.Call (.Attribute a "values" apos) [] [] cpos) X.env) :: starEach [] X.env) (hpl : (backTo pos (starEach [] X.env)).any (·.1) = false) :
    PE X (.Call (.Name "sorted" pf) [.Call (.Attribute a "values" apos) [] [] cpos] [] pos) (RdE (gx X) W fun ρ => bnd (ma ρ) fun v => bnd (dat v) fun x => bnd (opt (b1D .sortedvals x)) fun z => fresh m z) := by
  refine ⟨fun pins s σ H Q I h => thn (Q := EP X pins σ (restR Q)) ?_ fun _ _ e => EP.restR e⟩
  refine Call_ (ld_blt I hg hm boot_sorted (PyProof.Rows.callWith_builtin1 (PyProof.Rows.args_cons ?_ na) na hpl))
  refine thn (ev_values (F := fun kvs H1 => ∃ out, sortD (kvs.map (·.2)) = some out ∧ RawOut (gx X) H1 (.list out) (restR Q)) ha hbase hline I ?_) fun v s1 ⟨r, d, es, ep, kvs, H1, ev, I1, vw, dr, hz, dj, out, so, q⟩ => PyProof.Rows.args_nil ?_
  · obtain ⟨ρ, st, μ, en, sr, p⟩ := b1_one h
    refine ⟨ρ, st, μ, en, sr, p.imp fun v μ1 st1 H1 s1 sr1 g x rx => ?_⟩
    obtain ⟨dd, z, rt, e, q⟩ := g x rx
    cases dd with
    | dict kvs =>
      obtain ⟨out, e1, rfl⟩ := Option.map_eq_some_iff.mp (show (sortD (kvs.map (·.2))).map PyData.list = some z from e)
      exact ⟨kvs, rt, out, e1, q⟩
    | _ => cases e
  · subst ev
    refine sorted_gen hu so (by rw [List.length_map, ← dj.size]; exact hz) (fun E => ?_) q
    refine PySem.W.kdu_collect (KdlSrc.rawValues (es := es) (ep := ep)) (show X.A.in1.handled = none from I1.ok.hd hc) ⟨vw, dr⟩ hz fun h' tk acc kp it => ?_
    obtain ⟨vs, rs, rv⟩ := dj_vals dj it
    exact ⟨vs, I1.kept (t' := tk) kp, rv, rs⟩
/-- list(range(n)) -/
theorem e_lrg {m : Nat} (hc : X.calm = true) (hg : Gl X "list") (hm : X.mg "list" = none) (hg2 : Gl X "range") (hm2 : X.mg "range" = none) (ha : PE X a (RdE (gx X) W ma)) (na : starEach [a] X.env = (false, eval a X.env) :: starEach [] X.env)
    (nb : starEach [.Call (.Name "range" p2) [a] [] cpos] X.env = (false, eval (.Call (.Name "range" p2) [a] [] cpos) X.env) :: starEach [] X.env) :
    PE X (.Call (.Name "list" pf) [.Call (.Name "range" p2) [a] [] cpos] [] pos)
      (RdE (gx X) W fun ρ => bnd (bnd (ma ρ) fun v => bnd (pureD v) fun x => rngV (.int 0) x) fun q => bnd (opt (datas q.1)) fun xs => bnd (opt (b1D .list (.list xs))) fun z => fresh m z) :=
  (pe_listRg hc hg hm (prg_1 hg2 hm2 ha na) nb).restR.imp fun σ H Q h => by
    simp only [bnd_assoc] at h
    obtain ⟨ρ, st, μ, en, sr, p⟩ := h
    refine ⟨ρ, st, μ, en, sr, (Post.bnd p).imp fun v μ1 st1 H1 s1 sr1 q1 x rx => ?_⟩
    obtain ⟨d, rfl, q2⟩ := q1.pureD
    rcases rngV_inv (x := .int 0) (y := d) (st := st1) with ⟨i, j, e1, rfl, hb, hz, e⟩ | e
    · cases e1
      have r1' := RT.int (G := gx X) (H := H1) (.of rx)
      have q3 := q2
      unfold EV.bnd at q3
      rw [e] at q3
      refine ⟨j, r1', ⟨hb.1, hb.2.1, hb.2.2.1, hb.2.2.2, by rw [sizeLine_eq] at hz; exact hz⟩, fun q hq => ?_⟩
      have q4 : Post (gx X) (fun c d H' => W c d σ H') μ1 st1 H1 (EV.bnd (opt (datas ((List.range (j - 0).toNat).map fun n => Val.d (.int (0 + (n : Nat)))))) (fun xs => EV.bnd (opt (b1D .list (.list xs))) fun z => fresh m z) st1) fun v μ' st' H' => ∀ x, RV (gx X) μ' st' H' v x → Q x H' := q3
      obtain ⟨ds, e5, q5⟩ := q4.opt
      obtain ⟨z, e6, q6⟩ := q5.opt
      cases e6
      refine raw_fresh sr1 q6 H1 q _ (.refl _) hq ?_
      unfold rgV
      generalize List.range (j - 0).toNat = l at e5
      clear q6 q5 q4 q3 q2 e q1
      induction l generalizing ds with
      | nil => cases e5; exact RFs.nil
      | cons a l ih =>
        rw [List.map_cons] at e5
        unfold datas at e5
        obtain ⟨x, e7, e5⟩ := Option.bind_eq_some_iff.mp e5
        obtain ⟨xs, e8, rfl⟩ := Option.map_eq_some_iff.mp e5
        cases e7
        exact RFs.cons (by rw [RF]) (ih xs e8)
    · have q3 := q2
      unfold EV.bnd at q3
      rw [e] at q3
      exact q3.elim
end
end EV
end

section
set_option autoImplicit false
set_option linter.all false
set_option maxRecDepth 100000
set_option Elab.async false
/-! EvW: displays of dicts. -/
namespace EV
open PySem PySem.Spec
open PyProof.Rows
open L2
section
variable {X : Cx} {pins : List (Addr × Obj)} {σ : L2.St} {H : Hp} {s : Shared}
/-- a dict's put from within -/
theorem dd_dset {a : Addr} {es : Array DictEntry} {kvs kvs' : List (Dt × Dt)} {k y : Dt} {x v : V} {u r : Value} {Q : Hp → Prop} {A : Around} {E : Value → Shared → Prop} (hu : A.units + 8 < cLine) (I : Inv X pins σ H s) (e : H a = some (RawD a es)) (d : Dj X.prog X.w (RF X.prog X.w X.K H) kvs es)
    (hk : dputs kvs k y = some kvs') (rx : RF X.prog X.w X.K H k x) (ru : RelV x u) (ry : RF X.prog X.w X.K H y v) (rr : RelV v r)
    (q : ∀ es', Dj X.prog X.w (RF X.prog X.w X.K (upd H a (RawD a es'))) kvs' es' → Q (upd H a (RawD a es'))) : wpAny (model X.prog X.w) A (dictSet a u r) (fun _ s' => ∃ H', Inv X pins σ H' s' ∧ Q H') E s := by
  obtain ⟨kf, lt, rfl⟩ := dputs_kind hk
  have up := fun (es' : Array DictEntry) (d : Dt) (v : V) => rf_upd (X := X) (u := RawD a es') e (fun z => z) d v
  obtain ⟨hd, hz, way⟩ := dict_way I (.inl e) d kf rx ru
  have small : ∀ es' : Array DictEntry, Dj X.prog X.w (RF X.prog X.w X.K H) (dput kvs k y) es' → es'.size ≤ sizeLine := fun es' dj => by
    rw [dj.size]
    unfold dput
    split
    · rw [List.length_map]; exact hz
    · rw [List.length_append]; exact lt
  rcases way with ⟨xs, z, b, rfl, rfl, h1, h2, h3, h4, h5⟩ | ⟨ys, z, h1, rfl, h2, h3, h4⟩
  · refine wpAny_dictSet_heap (hsz := by rw [← Paired.length h3]; exact hz) (knd := nestedKind X.prog X.w) hu h5 h4 fun h' dd hs => ?_
    obtain ⟨o, es', ep, a1, a2, a3, a4, _, a6⟩ := dd
    have dj : Dj X.prog X.w (RF X.prog X.w X.K H) (dput kvs k y) es' := .inl ⟨_, a4, a6, h3.put h1 h2 rx ry rr⟩
    exact ⟨_, raw_write I e hs hd (small _ dj) a1 a2 a3, q es' (dj.map (up es'))⟩
  · refine wpAny_dictSet_pairs (hsz := by rw [← Paired.length h3]; exact hz) h2 h4 fun h' dd hs => ?_
    obtain ⟨o, es', ep, a1, a2, a3, a4, a5, a6⟩ := dd
    have dj : Dj X.prog X.w (RF X.prog X.w X.K H) (dput kvs k y) es' := .inr ⟨_, a4, a5, a6, h3.put h1 rx ry rr⟩
    exact ⟨_, raw_write I e hs hd (small _ dj) a1 a2 a3, q es' (dj.map (up es'))⟩
/-- pairs and how they lie -/
def KvR (X : Cx) (H : Hp) : List (Dt × Dt) → List (Value × Value) → Prop := Paired fun q w => ∃ x y, RF X.prog X.w X.K H q.1 x ∧ RelV x w.1 ∧ RF X.prog X.w X.K H q.2 y ∧ RelV y w.2
theorem KvR.mono {H' : Hp} {ps : List (Dt × Dt)} {ws : List (Value × Value)} (m : ∀ b o, H b = some o → Fz o → H' b = some o) (h : KvR X H ps ws) : KvR X H' ps ws :=
  Paired.mapP h fun _ _ ⟨x, y, a, b, c, d⟩ => ⟨x, y, RF.mono m _ _ a, b, RF.mono m _ _ c, d⟩
theorem upd_upd {H : Hp} {a : Addr} {o o' : HO} : upd (upd H a o) a o' = upd H a o' := by
  funext b
  by_cases h : b = a
  · rw [h, upd_same, upd_same]
  · rw [upd_ne h, upd_ne h, upd_ne h]
theorem store_all {p : Addr} {Q : Hp → Prop} {A : Around} {E : Value → Shared → Prop} (hu : A.units + 8 < cLine) : ∀ {ps : List (Dt × Dt)} {ws : List (Value × Value)} {kvs kvs' : List (Dt × Dt)} {es : Array DictEntry} {H : Hp} {s : Shared},
    Inv X pins σ H s → H p = some (RawD p es) → Dj X.prog X.w (RF X.prog X.w X.K H) kvs es → dputAll kvs ps = some kvs' → KvR X H ps ws →
    (∀ es', Dj X.prog X.w (RF X.prog X.w X.K (upd H p (RawD p es'))) kvs' es' → Q (upd H p (RawD p es'))) → wpAny (model X.prog X.w) A (storeAll p ws) (fun _ s' => ∃ H', Inv X pins σ H' s' ∧ Q H') E s
  | [], _, kvs, kvs', es, H, s, I, e, dj, ek, .nil, q => by
    cases ek
    have same : upd H p (RawD p es) = H := by
      funext b
      by_cases h : b = p
      · rw [h, upd_same, e]
      · rw [upd_ne h]
    have q' := q es (by rw [same]; exact dj)
    rw [same] at q'
    exact wpAny_pure ⟨H, I, q'⟩
  | (k, y) :: ps, _, kvs, kvs', es, H, s, I, e, dj, ek, .cons (b := w) r rs, q => by
    unfold dputAll at ek
    obtain ⟨kv1, e1, e2⟩ := Option.bind_eq_some_iff.mp ek
    obtain ⟨x, v, rx, vx, ry, vy⟩ := r
    show wpAny _ _ (forIn (w :: _) PUnit.unit _) _ _ _
    rw [List.forIn_cons]
    refine wpAny_bind (wpAny_bind (thn (dd_dset (Q := fun H1 => ∃ es1, H1 = upd H p (RawD p es1) ∧ Dj X.prog X.w (RF X.prog X.w X.K H1) kv1 es1) hu I e dj e1 rx vx ry vy fun es1 d1 => ⟨es1, rfl, d1⟩) fun _ s1 ⟨H1, I1, es1, eH, d1⟩ => wpAny_pure ?_))
    subst eH
    refine store_all hu I1 upd_same d1 e2 (KvR.mono (fun b o q f => ?_) rs) fun es2 d2 => ?_
    · rw [upd_ne (fun z => by rw [z, e] at q; cases q; exact f)]; exact q
    · rw [upd_upd] at d2 ⊢
      exact q es2 d2
def flatP : List (Value × Value) → List Value
  | [] => []
  | (a, b) :: r => a :: b :: flatP r
theorem rda_cons {W : WX} {ma : Env → M Val} {ms : Env → M (List Val)} {Q : List V → Hp → Prop} (h : RdA (gx X) W (fun ρ => bnd (ma ρ) fun v => bnd (ms ρ) fun vs => ret (v :: vs)) σ H Q) :
    RdE (gx X) W ma σ H fun x H1 => RdA (gx X) W ms σ H1 fun xs H2 => Q (x :: xs) H2 := by
  obtain ⟨ρ, st, μ, en, sr, p⟩ := h
  refine ⟨ρ, st, μ, en, sr, (Post.bnd p).imp fun v μ1 st1 H1 s1 sr1 q1 x rx => ⟨ρ, st1, μ1, en.step s1, sr1, (Post.bnd q1).imp fun vs μ2 st2 H2 s2 sr2 q2 xs rxs => ?_⟩⟩
  exact Post.ok (a := v :: vs) sr2 q2 _ (.cons (rx.step s2) rxs)
end
/-- the pairs of a display -/
structure PPr (X : Cx) (W : WX) (pos : Pos) (keys : List (Option Expr)) (values : List Expr) (m : Env → M (List Val)) : Prop where
  run : ∀ (pins : List (Addr × Obj)) (s : Shared) (σ : L2.St) (H : Hp) (Q : List V → Hp → Prop), Inv X pins σ H s → RdA (gx X) W m σ H Q →
    wpAny (model X.prog X.w) X.A (evalPairs (pairTrees keys values X.env pos)) (fun ws s' => ∃ xs H', Inv X pins σ H' s' ∧ Vals xs (flatP ws) ∧ Q xs H') X.xe s
section
variable {X : Cx} {W : WX} {pos : Pos} {a b : Expr} {keys : List (Option Expr)} {values : List Expr} {ma mb : Env → M Val} {ms : Env → M (List Val)}
theorem ppr_nil : PPr X W pos [] [] fun _ => ret [] := ⟨fun pins s σ H Q I h => by
  obtain ⟨ρ, st, μ, en, sr, p⟩ := h
  exact pairTrees_nil_walk ⟨[], H, I, .nil, Post.ok (a := ([] : List Val)) sr p [] .nil⟩⟩
theorem ppr_cons (ha : PE X a (RdE (gx X) W ma)) (hb : PE X b (RdE (gx X) W mb)) (hs : PPr X W pos keys values ms) :
    PPr X W pos (some a :: keys) (b :: values) fun ρ => bnd (ma ρ) fun v => bnd (bnd (mb ρ) fun w => bnd (ms ρ) fun vs => ret (w :: vs)) fun vs => ret (v :: vs) := ⟨fun pins s σ H Q I h =>
  pairTrees_cons_walk (thn (ha.run pins s σ H _ I (rda_cons h)) fun u s1 ⟨x, H1, I1, rx, q1⟩ => thn (hb.run pins s1 σ H1 _ I1 (rda_cons q1)) fun u2 s2 ⟨y, H2, I2, ry, q2⟩ =>
    thn (hs.run pins s2 σ H2 _ I2 q2) fun ws s3 ⟨xs, H3, I3, r3, q3⟩ => ⟨x :: y :: xs, H3, I3, .cons rx (.cons ry r3), q3⟩)⟩
theorem pair_lie {μ : Loc_} {st : Sto} {H : Hp} : ∀ {vs : List Val} {kvs : List (Dt × Dt)} {xs : List V} {ws : List (Value × Value)}, pairUp vs = some kvs → RVs (gx X) μ st H vs xs → Vals xs (flatP ws) → KvR X H kvs ws
  | [], kvs, xs, ws, e, r, v => by
    cases e
    cases r
    cases ws with
    | nil => exact .nil
    | cons w ws => cases v
  | [_], kvs, xs, ws, e, r, v => by cases e
  | k :: y :: vs, kvs, xs, ws, e, r, v => by
    unfold pairUp at e
    obtain ⟨dk, e1, e⟩ := Option.bind_eq_some_iff.mp e
    obtain ⟨dy, e2, e⟩ := Option.bind_eq_some_iff.mp e
    obtain ⟨ps, e3, rfl⟩ := Option.map_eq_some_iff.mp e
    have hk : k = .d dk := by cases k <;> cases e1; rfl
    have hy : y = .d dy := by cases y <;> cases e2; rfl
    subst hk hy
    cases r with
    | cons r1 r2 =>
      cases r2 with
      | cons r2 r3 =>
        cases ws with
        | nil => cases v
        | cons w ws =>
          cases v with
          | cons v1 v2 =>
            cases v2 with
            | cons v2 v3 => exact .cons ⟨_, _, r1, v1, r2, v2⟩ (pair_lie e3 r3 v3)
theorem upd_del' {H : Hp} {D : Addr} {o : HO} : upd (del H D) D o = upd H D o := by
  funext b
  by_cases e : b = D
  · rw [e, upd_same, upd_same]
  · rw [upd_ne e, upd_ne e, del_ne e]
/-- {k: v, ..} -/
theorem e_dct {m : Nat} (hu : X.A.units + 9 < cLine) (h : PPr X W pos keys values ms) (hall : keys.all (·.isSome) = true) (hl : keys.length = values.length) (h0 : keys ≠ []) (h15 : keys.length ≤ 15) :
    PE X (.Dict keys values pos) (RdE (gx X) W fun ρ => bnd (ms ρ) fun vs => bnd (opt (pairUp vs)) fun kvs => bnd (opt (dputAll [] kvs)) fun kvs' => fresh m (.dict kvs')) := by
  refine ⟨fun pins s σ H Q I hr => thn (Q := EP X pins σ (restR Q)) ?_ fun _ _ e => EP.restR e⟩
  obtain ⟨ρ, st, μ, en, sr, p⟩ := hr
  have hn : H s.heap.objs.size = none := I.hok.fresh (Nat.le_refl _)
  have I1 := raw_new (es := #[]) (t' := s.toks) (h' := s.heap.push { cls := .type "dict", data := .dict #[] }) I (fun _ _ q => Heap.get?_push_of_some _ q) (Nat.zero_le _) (Heap.get?_push_size _ rfl) ⟨rfl, rfl, rfl⟩ rfl
  have g : Grown H (upd H s.heap.objs.size (RawD s.heap.objs.size #[])) := .new hn
  have dl : del (upd H s.heap.objs.size (RawD s.heap.objs.size #[])) s.heap.objs.size = H := by rw [del_upd, del_none hn]
  have off : Off μ st s.heap.objs.size := SR.off (H := upd H s.heap.objs.size (RawD s.heap.objs.size #[])) (by rw [dl]; exact sr)
  refine wpAny_Dict_any hall hl h0 h15 (thn (h.run pins _ σ _ (fun xs H2 => ∃ μ2 st2 vs kvs kvs', H2 s.heap.objs.size = some (RawD s.heap.objs.size #[]) ∧ RVs (gx X) μ2 st2 H2 vs xs ∧ pairUp vs = some kvs ∧ dputAll [] kvs = some kvs' ∧
    RawOut (gx X) (del H2 s.heap.objs.size) (.dict kvs') (restR Q)) I1 ⟨ρ, st, μ, en.step g.step, sr.grown g, ?_⟩) fun ws s2 ⟨xs, H2, I2, rv, μ2, st2, vs, kvs, kvs', eh, rvs, e1, e2, out⟩ => ?_)
  · have p1 := Post.bnd p
    cases em : ms ρ st with
    | err x st2 =>
      rw [em] at p1
      exact Post.later (μ' := μ) (st' := st) g.step (k := fun _ _ _ _ => True) (r := (Res.err x st2 : Res (List Val))) p1
    | bad => rw [em] at p1; exact p1.elim
    | ok vs st2 =>
      rw [em] at p1
      intro μ2 H2 s2 sr2 xs rxs
      have ne : ¬ Fz (RawD s.heap.objs.size #[]) := fun z => z
      have h2 := Step.off off upd_same s2
      have sd := Step.del (D := s.heap.objs.size) s2
      rw [dl] at sd
      have srd := SR.del sr2 (off.step upd_same s2) h2 ne
      have p2 : Post _ _ _ _ _ _ _ := p1 μ2 _ sd srd
      obtain ⟨kvs, e1, p3⟩ := p2.opt
      obtain ⟨kvs', e2, p4⟩ := p3.opt
      exact ⟨μ2, st2, vs, kvs, kvs', h2, rxs, e1, e2, raw_fresh srd p4⟩
  · have kv := pair_lie e1 rvs rv
    refine thn (store_all (Q := fun H3 => ∃ es', H3 = upd H2 s.heap.objs.size (RawD s.heap.objs.size es') ∧ Dj X.prog X.w (RF X.prog X.w X.K H3) kvs' es') (by omega) I2 eh .nil e2 kv fun es' dj => ⟨es', rfl, dj⟩) fun _ s3 ⟨H3, I3, es', eH, dj⟩ => ?_
    subst eH
    refine ⟨.ref s.heap.objs.size, _, I3, rfl, ?_⟩
    have := out _ s.heap.objs.size es' (.refl _) del_same (dj.map fun d v r => RF.mono (fun b o q f => ?_) d v r)
    · rw [upd_del'] at this
      exact this
    · by_cases hb : b = s.heap.objs.size
      · rw [hb, upd_same] at q
        cases q
        exact f.elim
      · rw [upd_ne hb] at q
        rw [del_ne hb]
        exact q
/-- {} -/
theorem e_dct0 {m : Nat} : PE X (.Dict [] [] pos) (RdE (gx X) W fun ρ => bnd (ret []) fun vs => bnd (opt (pairUp vs)) fun kvs => bnd (opt (dputAll [] kvs)) fun kvs' => fresh m (.dict kvs')) := by
  refine ⟨fun pins s σ H Q I hr => thn (Q := EP X pins σ (restR Q)) ?_ fun _ _ e => EP.restR e⟩
  obtain ⟨ρ, st, μ, en, sr, p⟩ := hr
  have hn : H s.heap.objs.size = none := I.hok.fresh (Nat.le_refl _)
  have I1 := raw_new (es := #[]) (t' := s.toks) (h' := s.heap.push { cls := .type "dict", data := .dict #[] }) I (fun _ _ q => Heap.get?_push_of_some _ q) (Nat.zero_le _) (Heap.get?_push_size _ rfl) ⟨rfl, rfl, rfl⟩ rfl
  have p' : Post (gx X) (fun c d H' => W c d σ H') μ st H (fresh m (.dict []) st) fun v μ' st' H' => ∀ x, RV (gx X) μ' st' H' v x → Q x H' := p
  exact wpAny_Dict_empty ⟨.ref s.heap.objs.size, _, I1, rfl, raw_fresh sr p' H _ #[] (.refl _) hn .nil⟩
/-! ### the state of the draws -/
def zipK (ks : List Str) (xs : List V) : List (V × V) := (ks.zip xs).map fun p => (.str p.1, p.2)
/-- keys written, values read -/
structure PPk (X : Cx) (W : WX) (pos : Pos) (keys : List (Option Expr)) (values : List Expr) (ks : List Str) (m : Env → M (List Val)) : Prop where
  run : ∃ trs : List (TE × TE), PPs X pos keys values trs ∧ ∀ σ H (Q : List (V × V) → Hp → Prop), RdA (gx X) W m σ H (fun xs H' => xs.length = ks.length → Q (zipK ks xs) H') → tPairs trs σ H Q
theorem ppk_nil : PPk X W pos [] [] [] fun _ => ret [] := ⟨[], pps_nil, fun σ H Q h => by
  obtain ⟨ρ, st, μ, en, sr, p⟩ := h
  exact Post.ok (a := ([] : List Val)) sr p [] .nil rfl⟩
theorem ppk_cons {k : Str} {j : Nat} {p : Pos} {ks : List Str} (hb : PE X b (RdE (gx X) W mb)) (hs : PPk X W pos keys values ks ms) :
    PPk X W pos (some (.Constant (.str k) j p) :: keys) (b :: values) (k :: ks) fun ρ => bnd (mb ρ) fun v => bnd (ms ρ) fun vs => ret (v :: vs) := by
  obtain ⟨trs, h1, h2⟩ := hs.run
  refine ⟨(tC (.str k), RdE (gx X) W mb) :: trs, pps_cons pe_str hb h1, fun σ H Q h => ?_⟩
  show RdE (gx X) W mb σ H fun y H2 => tPairs trs σ H2 fun ps H3 => Q ((.str k, y) :: ps) H3
  obtain ⟨ρ, st, μ, en, sr, p⟩ := rda_cons h
  refine ⟨ρ, st, μ, en, sr, p.imp fun v μ' st' H' s' sr' q x rx => h2 σ H' _ ?_⟩
  obtain ⟨ρ2, st2, μ2, en2, sr2, p2⟩ := q x rx
  exact ⟨ρ2, st2, μ2, en2, sr2, p2.imp fun vs μ3 st3 H3 s3 sr3 q3 xs rxs hl => q3 xs rxs (by simp [hl])⟩
theorem putK_fresh {kvs : List (Key × V)} {k : Key} {v : V} (h : ∀ p ∈ kvs, p.1 ≠ k) : putK kvs k v = kvs ++ [(k, v)] := by
  unfold putK
  rw [if_neg]
  intro e
  obtain ⟨p, hp, e⟩ := List.any_eq_true.mp e
  exact h p hp (of_decide_eq_true e)
theorem merge_fresh : ∀ (more kvs : List (Key × V)), (more.map (·.1)).Nodup → (∀ p ∈ kvs, ∀ q ∈ more, p.1 ≠ q.1) → mergeK kvs more = kvs ++ more
  | [], kvs, _, _ => (List.append_nil kvs).symm
  | p :: r, kvs, hd, hn => by
    rw [List.map_cons, List.nodup_cons] at hd
    show mergeK (putK kvs p.1 p.2) r = _
    rw [putK_fresh fun q hq => hn q hq p List.mem_cons_self, merge_fresh r _ hd.2, List.append_assoc]
    · rfl
    · intro q hq z hz
      rcases List.mem_append.mp hq with hq | hq
      · exact hn q hq z (List.mem_cons_of_mem _ hz)
      · rw [List.mem_singleton.mp hq]
        exact fun e => hd.1 (List.mem_map.mpr ⟨z, hz, e.symm⟩)
theorem zip_dcv {G : Wd} {μ : Loc_} {st : Sto} {H : Hp} : ∀ {ks : List Str} {vs : List Val} {xs : List V}, RVs G μ st H vs xs → Paired (DcvR G μ st H) (ks.zip vs) ((ks.zip xs).map fun p => ((Sum.inr p.1 : Key), p.2))
  | [], _, _, _ => .nil
  | _ :: _, _, _, .nil => .nil
  | k :: ks, _, _, .cons r1 r2 => .cons ⟨rfl, r1⟩ (zip_dcv r2)
theorem e_dcv {ks : List Str} (h : PPk X W pos keys values ks ms) (hall : keys.all (·.isSome) = true) (hl : keys.length = values.length) (h0 : keys ≠ []) (h15 : keys.length ≤ 15) (hk : ks.Nodup) (hkl : ks.length ≤ 15) :
    PE X (.Dict keys values pos) (RdE (gx X) W fun ρ => bnd (ms ρ) fun xs => if xs.length = ks.length then alloc (.dcv (ks.zip xs)) else bad) := by
  obtain ⟨trs, h1, h2⟩ := h.run
  refine (pe_disp h1 hall hl h0 h15).imp fun σ H Q hr p hp => h2 σ _ _ ?_
  obtain ⟨ρ, st, μ, en, sr, ps⟩ := hr
  have g : Grown H (upd H p (.dK [])) := .new hp
  have dl : del (upd H p (.dK [])) p = H := by rw [del_upd, del_none hp]
  have off : Off μ st p := SR.off (H := upd H p (.dK [])) (by rw [dl]; exact sr)
  refine ⟨ρ, st, μ, en.step g.step, sr.grown g, ?_⟩
  have p1 := Post.bnd ps
  cases em : ms ρ st with
  | err x st2 =>
    rw [em] at p1
    exact Post.later (μ' := μ) (st' := st) g.step (k := fun _ _ _ _ => True) (r := (Res.err x st2 : Res (List Val))) p1
  | bad => rw [em] at p1; exact p1.elim
  | ok vs st2 =>
    rw [em] at p1
    intro μ2 H2 s2 sr2 xs rxs hlx
    have ne : ¬ Fz (.dK []) := fun z => z
    have h3 := Step.off off upd_same s2
    have sd := Step.del (D := p) s2
    rw [dl] at sd
    have srd := SR.del sr2 (off.step upd_same s2) h3 ne
    have p2 : Post _ _ _ _ _ _ _ := p1 μ2 _ sd srd
    have hlv : vs.length = ks.length := (Paired.length rxs).trans hlx
    rw [if_pos hlv] at p2
    refine ⟨h3, (ks.zip xs).map fun p => ((Sum.inr p.1 : Key), p.2), ?_, ?_, ?_⟩
    · unfold zipK
      rw [List.map_map]
      rfl
    · rw [List.length_map, List.length_zip]; omega
    · have nd : (((ks.zip xs).map fun p => ((Sum.inr p.1 : Key), p.2)).map (·.1)).Nodup := by
        rw [List.map_map]
        have e : ((fun p : Key × V => p.1) ∘ fun p : Str × V => ((Sum.inr p.1 : Key), p.2)) = (fun k : Str => (Sum.inr k : Key)) ∘ (fun p : Str × V => p.1) := rfl
        rw [e, ← List.map_map, List.map_fst_zip (by omega)]
        exact List.Pairwise.map _ (fun a b n z => n (Sum.inr.inj z)) hk
      rw [merge_fresh _ [] nd (fun q hq => nomatch hq), List.nil_append, ← upd_del']
      have rx2 : RVs (gx X) μ2 st2 (EV.del H2 p) vs xs := Paired.mapP rxs fun v x r => by
        cases v with
        | d y => exact RF.mono (fun b o q f => by rw [del_ne (fun z => by rw [z, h3] at q; cases q; exact f)]; exact q) y x r
        | ref n => exact r
        | fn f => exact r
        | err c fs =>
          have m : ∀ b o, H2 b = some o → Fz o → EV.del H2 p b = some o := fun b o q f => by rw [del_ne (fun z => by rw [z, h3] at q; cases q; exact f)]; exact q
          obtain ⟨a, oe, e1, e2, e3, e4⟩ := r
          exact ⟨a, oe, e1, m _ _ e2 trivial, e3, e4.mono m⟩
      have gn : Grown (EV.del H2 p) (upd (EV.del H2 p) p (.dK ((ks.zip xs).map fun p => ((Sum.inr p.1 : Key), p.2)))) := .new del_same
      have st3 : Step μ2 st2 (EV.del H2 p) (locAt μ2 st2.length p) (st2 ++ [Cell.dcv (ks.zip vs)]) _ := .alloc del_same gn
      refine p2 (locAt μ2 st2.length p) _ st3 (srd.alloc del_same gn ⟨_, upd_same, zip_dcv (rx2.step st3)⟩) _ ⟨by simp, by rw [locAt_same]⟩
end
end EV
end

section
set_option autoImplicit false
set_option linter.all false
set_option maxRecDepth 100000
set_option Elab.async false
/-! EvDc: dict comprehensions with flat keys. -/
namespace EV
open PySem PySem.Spec
open PyProof.Rows
open L2
/-- a dict of the layer with flat keys -/
def DkR (X : Cx) (H : Hp) : List (Dt × Dt) → List (Key × V) → Prop := Paired fun p q => fk p.1 = some q.1 ∧ RF X.prog X.w X.K H p.2 q.2
theorem DkR.mono {X : Cx} {H H' : Hp} {kvs : List (Dt × Dt)} {acc : List (Key × V)} (m : ∀ b o, H b = some o → Fz o → H' b = some o) (h : DkR X H kvs acc) : DkR X H' kvs acc := Paired.mapP h fun _ _ r => ⟨r.1, RF.mono m _ _ r.2⟩
theorem putAll_snoc {kvs : List (Dt × Dt)} {k v : Dt} : putAll (kvs ++ [(k, v)]) = dput (putAll kvs) k v := by
  unfold putAll
  rw [List.foldl_append]
  rfl
theorem DkR.has {X : Cx} {H : Hp} {kvs : List (Dt × Dt)} {acc : List (Key × V)} (h : DkR X H kvs acc) {k : Dt} {q : Key} (hk : fk k = some q) : dhas kvs k = acc.any fun kv => decide (kv.1 = q) := by
  unfold DkR at h
  induction h with
  | nil => rfl
  | @cons a b as bs r t ih =>
    have e : PyData.eqv a.1 k = decide (b.1 = q) := eqv_fk r.1 hk
    rw [List.any_cons, ← ih]
    unfold dhas dget
    rw [List.find?_cons, e]
    by_cases c : b.1 = q
    · rw [decide_eq_true c]; rfl
    · rw [decide_eq_false c]; rfl
theorem DkR.put {X : Cx} {H : Hp} {kvs : List (Dt × Dt)} {acc : List (Key × V)} (h : DkR X H kvs acc) {k v : Dt} {q : Key} {y : V} (hk : fk k = some q) (r : RF X.prog X.w X.K H v y) : DkR X H (dput kvs k v) (putK acc q y) := by
  have re : ∀ {kvs : List (Dt × Dt)} {acc : List (Key × V)}, DkR X H kvs acc → DkR X H (kvs.map fun p => if PyData.eqv p.1 k then (p.1, v) else p) (acc.map fun kv => if kv.1 = q then (kv.1, y) else kv) := by
    intro kvs acc h
    unfold DkR at h ⊢
    induction h with
    | nil => exact .nil
    | @cons a b as bs r' t ih =>
      refine .cons ?_ ih
      have e : PyData.eqv a.1 k = decide (b.1 = q) := eqv_fk r'.1 hk
      by_cases c : b.1 = q
      · simp only [e, decide_eq_true c, if_pos c, if_true]; exact ⟨r'.1, r⟩
      · simp only [e, decide_eq_false c, if_neg c]; exact r'
  unfold dput putK
  rw [h.has hk]
  split
  · exact re h
  · exact Paired.snoc h ⟨hk, r⟩
section
variable {X : Cx} {W : WX}
/-- within a dict comprehension: the dict at D, what is left to do -/
def TSd (X : Cx) (D : Addr) (μ0 : Loc_) (st0 : Sto) (H0 : Hp) (b : Nat) (m : M (List (Dt × Dt))) (K : List (Dt × Dt) → Loc_ → Sto → Hp → Prop) (μ : Loc_) (st : Sto) (H : Hp) : Prop :=
  ∃ acc ds, H D = some (.dK acc) ∧ SR (gx X) μ st H ∧ SR (gx X) μ st (del H D) ∧ Step μ0 st0 H0 μ st (del H D) ∧ DkR X (del H D) (putAll ds) acc ∧ acc.length ≤ b ∧
    Post (gx X) NoX μ st (del H D) (m st) fun ys μ2 st2 H2 => K (ds ++ ys) μ2 st2 H2
section
variable {D : Addr} {μ0 : Loc_} {st0 : Sto} {H0 : Hp} {b : Nat} {m : M (List (Dt × Dt))} {K : List (Dt × Dt) → Loc_ → Sto → Hp → Prop} {μ : Loc_} {st : Sto} {H : Hp}
theorem TSd.step {α : Type} {a : M α} {g : α → M (List (Dt × Dt))} (h : TSd X D μ0 st0 H0 b (bnd a g) K μ st H) : Post (gx X) NoX μ st H (a st) fun r μ2 st2 H2 => TSd X D μ0 st0 H0 b (g r) K μ2 st2 H2 := by
  obtain ⟨acc, ds, hD, sr, srd, s, fs, hb, p⟩ := h
  refine (Post.undel srd.off hD (fun z => z) p.bnd).imp fun r μ2 st2 H2 s2 sr2 ⟨h2, _, sr3, p2⟩ => ?_
  exact ⟨acc, ds, h2, sr2, sr3, s.trans s2.del, DkR.mono s2.del.fz fs, hb, p2⟩
theorem TSd.held {gs : List Nat} {st1 : Sto} {g : Unit → M (List (Dt × Dt))} (h : TSd X D μ0 st0 H0 b (bnd (held gs st1) g) K μ st H) : Held gs st1 st ∧ TSd X D μ0 st0 H0 b (g ()) K μ st H := by
  obtain ⟨acc, ds, hD, sr, srd, s, fs, hb, p⟩ := h
  obtain ⟨hh, p⟩ := Post.held p
  exact ⟨hh, acc, ds, hD, sr, srd, s, fs, hb, p⟩
theorem TSd.grown {H' : Hp} (g : Grown H H') (h : TSd X D μ0 st0 H0 b m K μ st H) : TSd X D μ0 st0 H0 b m K μ st H' := by
  obtain ⟨acc, ds, hD, sr, srd, s, fs, hb, p⟩ := h
  have sd : Step μ st (del H D) μ st (del H' D) := Step.del g.step
  have off := srd.off
  exact ⟨acc, ds, g _ _ hD, sr.grown g, (sr.grown g).del off (g _ _ hD) (fun z => z), s.trans sd, DkR.mono sd.fz fs, hb, p.later sd⟩
theorem TSd.more {b' : Nat} (hb : b ≤ b') (h : TSd X D μ0 st0 H0 b m K μ st H) : TSd X D μ0 st0 H0 b' m K μ st H := by
  obtain ⟨acc, ds, hD, sr, srd, s, fs, h1, p⟩ := h
  exact ⟨acc, ds, hD, sr, srd, s, fs, Nat.le_trans h1 hb, p⟩
/-- a key and a value come -/
theorem TSd.push {dk dy : Dt} {q : Key} {y : V} (h : TSd X D μ0 st0 H0 b (bnd m fun zs => ret ((dk, dy) :: zs)) K μ st H) (hk : fk dk = some q) (r : RF X.prog X.w X.K H dy y) : ∃ acc, H D = some (.dK acc) ∧ acc.length ≤ b ∧ TSd X D μ0 st0 H0 (b + 1) m K μ st (upd H D (.dK (putK acc q y))) ∧ Adv μ st H μ st (upd H D (.dK (putK acc q y))) := by
  obtain ⟨acc, ds, hD, sr, srd, s, fs, hb, p⟩ := h
  have m1 : ∀ b u, H b = some u → Fz u → del H D b = some u := fun b u e q => by
    rw [del_ne (fun z => by rw [z, hD] at e; cases e; exact q)]; exact e
  have m2 : ∀ b u, H b = some u → Fz u → upd H D (.dK (putK acc q y)) b = some u := fun b u e q => by
    rw [upd_ne (fun z => by rw [z, hD] at e; cases e; exact q)]; exact e
  have g : Grown (del H D) (upd H D (.dK (putK acc q y))) := by
    have := del_grown (H := upd H D (.dK (putK acc q y))) (D := D)
    rw [del_upd] at this
    exact this
  have hl := length_putK acc q y
  refine ⟨acc, hD, hb, ⟨putK acc q y, ds ++ [(dk, dy)], upd_same, srd.grown g, by rw [del_upd]; exact srd, by rw [del_upd]; exact s, by rw [del_upd, putAll_snoc]; exact DkR.put fs hk (RF.mono m1 dy y r), by omega, ?_⟩, Nat.le_refl _, fun _ _ => rfl, m2⟩
  rw [del_upd]
  refine (Post.bnd p).imp fun zs μ2 st2 H2 s2 sr2 p2 => ?_
  have := Post.ok (a := (dk, dy) :: zs) sr2 p2
  rw [List.append_assoc]
  exact this
end
/-- the target and the conditions of a turn -/
theorem tc_rdD {D : Addr} {μ0 : Loc_} {st0 : Sto} {H0 : Hp} {b : Nat} {K : List (Dt × Dt) → Loc_ → Sto → Hp → Prop} {μ : Loc_} {st : Sto} {H : Hp} {t : T} {own : List Nat} {mc : Env → M Bool} {mv : Env → M (List (Dt × Dt))} {ρ : Env} {σ : L2.St} {vv : Val} {x : V}
    {G : List (Dt × Dt) → M (List (Dt × Dt))} {No : Hp → Prop} {Yes : L2.St → Hp → Prop} (hs : ∀ i ∈ t.slots, i ∈ own) (en : EnvOk (gx X) μ st H ρ σ) (r : RV (gx X) μ st H vv x) (h : TSd X D μ0 st0 H0 b (bnd (turnF t own mc mv ρ vv) G) K μ st H)
    (no : ∀ μ2 st2 H2, Step μ st H μ2 st2 H2 → TSd X D μ0 st0 H0 b (G []) K μ2 st2 H2 → No H2)
    (yes : ∀ ρ' σ2 μ2 st2 H2, Step μ st H μ2 st2 H2 → wipe σ2 own = wipe σ own → EnvOk (gx X) μ2 st2 H2 ρ' σ2 → TSd X D μ0 st0 H0 b (bnd (mv ρ') G) K μ2 st2 H2 → Yes σ2 H2) :
    gT X.K t x (wipe σ own) H fun σ2 H2 => wipe σ2 own = wipe σ own ∧ RdT (gx X) NoW mc σ2 H2 fun k H3 => if k = true then Yes σ2 H3 else No H3 := by
  have sr : SR (gx X) μ st H := by obtain ⟨acc, ds, _, sr, _⟩ := h; exact sr
  rcases bind1_res (t := t) (vv := vv) (ρ := wipeE ρ own) (st := st) with ⟨ρ', eb⟩ | eb
  · refine (gT_of (own := own) (en.wipe own) r eb fun σ2 en2 hw => ⟨(hw hs).trans wipe_idem, ?_⟩).2
    have hw' : wipe σ2 own = wipe σ own := (hw hs).trans wipe_idem
    have h2 : TSd X D μ0 st0 H0 b (bnd (mc ρ') fun k => bnd (if k = true then mv ρ' else ret []) G) K μ st H := by
      obtain ⟨acc, ds, hD, sr, srd, s, fs, hb, p⟩ := h
      refine ⟨acc, ds, hD, sr, srd, s, fs, hb, ?_⟩
      unfold turnF at p
      rw [bnd_assoc] at p
      have p' := p
      unfold bnd at p'
      rw [eb] at p'
      simp only at p'
      have e2 : bnd (mc ρ') (fun k => bnd (if k = true then mv ρ' else ret []) G) = bnd (bnd (mc ρ') fun k => if k = true then mv ρ' else ret []) G := (bnd_assoc _ _ _).symm
      rw [e2]
      exact p'
    refine ⟨ρ', st, μ, en2, sr, (TSd.step h2).imp fun k μ2 st2 H2 s2 sr2 t2 => ?_⟩
    cases k with
    | true => exact yes ρ' σ2 μ2 st2 H2 s2 hw' (en2.step s2) t2
    | false => exact no μ2 st2 H2 s2 t2
  · obtain ⟨acc, ds, hD, sr, srd, s, fs, hb, p⟩ := h
    unfold turnF at p
    rw [bnd_assoc] at p
    have p' := p
    unfold bnd at p'
    rw [eb] at p'
    exact p'.elim
/-- the loop of a level: what is left behind the loop is OR -/
theorem lvlD {J : It} {xs : List Val} {gs : List Nat} {μ1 : Loc_} {st1 : Sto} {H1 : Hp} (ok : JOk (gx X) J xs gs μ1 st1 H1) {D : Addr} {μ0 : Loc_} {st0 : Sto} {H0 : Hp} {b B : Nat} {K : List (Dt × Dt) → Loc_ → Sto → Hp → Prop} {f : Val → M (List (Dt × Dt))} {OR : M (List (Dt × Dt))}
    {Fin : Hp → Prop} {Turn : V → Hp → (Hp → Prop) → Prop} {μ : Loc_} {st : Sto} {H : Hp} (a : Adv μ1 st1 H1 μ st H) (h : TSd X D μ0 st0 H0 b (bnd (lcL gs st1 f xs) fun zs => bnd OR fun ws => ret (zs ++ ws)) K μ st H)
    (fin : ∀ μ st H, Adv μ1 st1 H1 μ st H → TSd X D μ0 st0 H0 (b + xs.length * B) OR K μ st H → Fin H)
    (turn : ∀ i v x μ st H (Nx : Hp → Prop), i < xs.length → Adv μ1 st1 H1 μ st H → RV (gx X) μ st H v x → TSd X D μ0 st0 H0 (b + i * B) (bnd (f v) fun ys => bnd (bnd (lcL gs st1 f (xs.drop (i + 1))) fun zs => bnd OR fun ws => ret (zs ++ ws)) fun zs => ret (ys ++ zs)) K μ st H →
      (∀ μ' st' H', Adv μ st H μ' st' H' → TSd X D μ0 st0 H0 (b + (i + 1) * B) (bnd (lcL gs st1 f (xs.drop (i + 1))) fun zs => bnd OR fun ws => ret (zs ++ ws)) K μ' st' H' → Nx H') → Turn x H Nx) :
    ∃ W : Nat → Nat → Hp → Prop, (∃ m, W 0 m H) ∧ ∀ i m H, W i m H → (J.stop i H ∧ Fin H) ∨ (J.go i H ∧ ∃ Nx : Hp → Prop, (∀ H', Nx H' → ∃ m', m' < m ∧ W (i + 1) m' H') ∧ ∀ x H', J.yld i H x H' → Turn x H' Nx) := by
  refine ⟨fun i n H => n = xs.length - i ∧ i ≤ xs.length ∧ ∃ μ st, Adv μ1 st1 H1 μ st H ∧ TSd X D μ0 st0 H0 (b + i * B) (bnd (lcL gs st1 f (xs.drop i)) fun zs => bnd OR fun ws => ret (zs ++ ws)) K μ st H,
    ⟨xs.length, rfl, Nat.zero_le _, μ, st, a, by rw [Nat.zero_mul]; exact h⟩, ?_⟩
  rintro i n H ⟨rfl, hi, μ, st, a, h⟩
  by_cases hlt : i < xs.length
  · rw [List.drop_eq_getElem_cons hlt] at h
    have h' : TSd X D μ0 st0 H0 (b + i * B) (bnd (bnd (held gs st1) fun _ => bnd (f xs[i]) fun ys => bnd (lcL gs st1 f (xs.drop (i + 1))) fun zs => ret (ys ++ zs)) fun zs => bnd OR fun ws => ret (zs ++ ws)) K μ st H := h
    rw [bnd_assoc] at h'
    obtain ⟨hh, h'⟩ := TSd.held h'
    have sr : SR (gx X) μ st H := by obtain ⟨acc, ds, _, sr, _⟩ := h'; exact sr
    obtain ⟨tn, _⟩ := ok.2 μ st H a sr hh
    obtain ⟨go, yld⟩ := tn i _ (List.getElem?_eq_getElem hlt)
    refine .inr ⟨go, fun H' => ∃ μ' st', Adv μ1 st1 H1 μ' st' H' ∧ TSd X D μ0 st0 H0 (b + (i + 1) * B) (bnd (lcL gs st1 f (xs.drop (i + 1))) fun zs => bnd OR fun ws => ret (zs ++ ws)) K μ' st' H', fun H' w => ⟨xs.length - (i + 1), by omega, rfl, hlt, w⟩, fun x H' y => ?_⟩
    obtain ⟨g, rv⟩ := yld x H' y
    have a' : Adv μ1 st1 H1 μ st H' := a.trans g.step.adv
    refine turn i _ x μ st H' _ hlt a' rv ?_ fun μ2 st2 H2 a2 t2 => ⟨μ2, st2, a'.trans a2, t2⟩
    have e : (bnd (f xs[i]) fun ys => bnd (bnd (lcL gs st1 f (xs.drop (i + 1))) fun zs => bnd OR fun ws => ret (zs ++ ws)) fun zs => ret (ys ++ zs)) =
        (bnd (bnd (f xs[i]) fun ys => bnd (lcL gs st1 f (xs.drop (i + 1))) fun zs => ret (ys ++ zs)) fun zs => bnd OR fun ws => ret (zs ++ ws)) := by
      rw [bnd_assoc]
      congr 1
      funext ys
      rw [bnd_assoc, bnd_assoc]
      congr 1
      funext zs
      rw [bnd_ret, bnd_assoc]
      congr 1
      funext ws
      rw [bnd_ret, List.append_assoc]
    rw [e]
    exact h'.grown g
  · have e : i = xs.length := by omega
    subst e
    rw [List.drop_length] at h
    have h' : TSd X D μ0 st0 H0 (b + xs.length * B) (bnd (bnd (held gs st1) fun _ => ret []) fun zs => bnd OR fun ws => ret (zs ++ ws)) K μ st H := h
    rw [bnd_assoc] at h'
    obtain ⟨hh, h'⟩ := TSd.held h'
    have sr : SR (gx X) μ st H := by obtain ⟨acc, ds, _, sr, _⟩ := h'; exact sr
    refine .inl ⟨(ok.2 μ st H a sr hh).2, fin μ st H a ?_⟩
    rw [bnd_ret] at h'
    have e : (bnd OR fun ws => ret ([] ++ ws)) = OR := by
      show bnd OR ret = OR
      exact ret_bnd _
    rw [e] at h'
    exact h'
/-- a dict with flat keys, tracked by its entries -/
theorem raw_again {pins : List (Addr × Obj)} {σ : L2.St} {H : Hp} {s : Shared} {p : Addr} {acc : List (Key × V)} (I : Inv X pins σ H s) (e : H p = some (.dK acc)) : ∃ es ys, Inv X pins σ (upd H p (RawD p es)) s ∧ KeysOf (mixKind X.prog X.w) es ∧
    Pairs (mixKind X.prog X.w) es.toList ys ∧ (ys.map (·.1)).Nodup ∧ KV acc ys := by
  obtain ⟨z, hd, vs, rel, o, es, ep, a1, a2, a3, a4, a5, a6⟩ := dk_of I.hok e
  have sz : es.size ≤ sizeLine := by
    have h1 := a5.length
    rw [Array.length_toList] at h1
    rw [h1, ← rel.length]
    exact z
  refine ⟨es, vs, ?_, a4, a5, a6, rel⟩
  have J := d_write (h' := s.heap) (t' := s.toks) (ob := RawD p es) I (by rw [e]; exact True.intro) ⟨rfl, fun _ _ => rfl⟩ ⟨o, a1⟩ ⟨⟨hd, sz, o, ep, a1, a2, a3⟩, ⟨o, a1⟩, fun h1 h2 ⟨b1, b2, o1, e1, c1, c2, c3⟩ k => ⟨b1, b2, o1, e1, k _ c1, c2, c3⟩⟩
  exact J
/-- what is wanted once the dict is tracked by its entries -/
def dkQ (X : Cx) (Q : VK) : VK := fun v H => ∃ p acc, v = .ref p ∧ H p = some (.dK acc) ∧ ∀ es ys, KeysOf (mixKind X.prog X.w) es → Pairs (mixKind X.prog X.w) es.toList ys → (ys.map (·.1)).Nodup → KV acc ys → Q (.ref p) (upd H p (RawD p es))
theorem EP.dkQ {pins : List (Addr × Obj)} {σ : L2.St} {Q : VK} {u : Value} {s : Shared} (h : EP X pins σ (dkQ X Q) u s) : EP X pins σ Q u s := by
  obtain ⟨v, H, I, r, p, acc, rfl, e, q⟩ := h
  obtain ⟨es, ys, J, a4, a5, a6, rel⟩ := raw_again I e
  exact ⟨.ref p, _, J, r, q es ys a4 a5 a6 rel⟩
theorem dk_dj {H : Hp} {kvs : List (Dt × Dt)} {acc : List (Key × V)} {es : Array DictEntry} {ys : List (Key × Value)} (h : DkR X H kvs acc) (a4 : KeysOf (mixKind X.prog X.w) es) (a5 : Pairs (mixKind X.prog X.w) es.toList ys) (a6 : (ys.map (·.1)).Nodup) (rel : KV acc ys) :
    Dj X.prog X.w (RF X.prog X.w X.K H) kvs es := by
  refine .inr ⟨ys, a4, a5, a6, ?_⟩
  clear a4 a5 a6
  unfold DkR at h
  unfold JF
  induction h generalizing ys with
  | nil => cases rel; exact .nil
  | @cons a b as bs r t ih =>
    cases rel with
    | cons q1 q2 =>
      refine .cons ⟨by rw [← q1.1]; exact r.1, ?_, b.2, r.2, q1.2⟩ (ih q2)
      rw [← q1.1]
      rcases fk_nk r.1 with ⟨i, e1, e2⟩ | ⟨i, e1, e2⟩
      · rw [e1, e2, RF]; rfl
      · rw [e1, e2, RF]; rfl
/-- the end: the dict as a value -/
theorem TSd.fin {D : Addr} {μ0 : Loc_} {st0 : Sto} {H0 : Hp} {b mm : Nat} {W' : Value → Option Addr → Hp → Prop} {Q : VK} {μ : Loc_} {st : Sto} {H : Hp}
    (h : TSd X D μ0 st0 H0 b (ret []) (fun zs μ2 st2 H2 => Post (gx X) W' μ2 st2 H2 (fresh mm (.dict (putAll zs)) st2) fun v μ' st' H' => ∀ x, RV (gx X) μ' st' H' v x → Q x H') μ st H) : dkQ X (restR Q) (.ref D) H := by
  obtain ⟨acc, ds, hD, sr, srd, s, fs, hb, p⟩ := h
  have p3 := Post.ok (a := ([] : List (Dt × Dt))) srd p
  rw [List.append_nil] at p3
  refine ⟨D, acc, rfl, hD, fun es ys a4 a5 a6 rel => ?_⟩
  have := raw_fresh srd p3 (del H D) D es (.refl _) del_same (dk_dj fs a4 a5 a6 rel)
  rw [upd_del'] at this
  exact this
theorem dc_rd {σ : L2.St} {H : Hp} {Q : VK} {t : T} {own : List Nat} {m : Nat} {mi : Env → M (List Val × List Nat)} {mc : Env → M Bool} {mk me : Env → M Val} (ht : ∀ i ∈ t.slots, i ∈ own)
    (h : RdE (gx X) W (fun ρ => bnd (mi ρ) fun q => fun st => bnd (shut (lcL q.2 st (turnF t own mc (fun ρ' => bnd (mk ρ') fun kv => bnd (me ρ') fun vv => bnd (pureD kv) fun y => bnd (pureD vv) fun z => bnd (opt (if flatKey y then some () else none)) fun _ => ret [(y, z)]) ρ) q.1)) (fun kvs => fresh m (.dict (putAll kvs))) st) σ H Q) :
    tDc (RdI (gx X) W mi) (gT X.K t) (RdT (gx X) NoW mc) (RdE (gx X) NoW mk) (RdE (gx X) NoW me) own σ H (dkQ X (restR Q)) := by
  obtain ⟨ρ, st0, μ0, en, sr0, p⟩ := h
  refine ⟨ρ, st0, μ0, en, sr0, (Post.bnd p).imp fun q μ1 st1 H1 s1 sr1 p1 J ok D hD => ?_⟩
  obtain ⟨xs, gs⟩ := q
  have en1 := en.step s1
  have hz : xs.length ≤ sizeLine := ok.1
  have p2 := p1.bnd.shut (W' := NoX)
  let F : Env → M (List (Dt × Dt)) := fun ρ' => bnd (mk ρ') fun kv => bnd (me ρ') fun vv => bnd (pureD kv) fun y => bnd (pureD vv) fun z => bnd (opt (if flatKey y then some () else none)) fun _ => ret [(y, z)]
  let KK : List (Dt × Dt) → Loc_ → Sto → Hp → Prop := fun zs μ2 st2 H2 => Post (gx X) (fun c d H' => W c d σ H') μ2 st2 H2 (fresh m (.dict (putAll zs)) st2) fun v μ' st' H' => ∀ x, RV (gx X) μ' st' H' v x → Q x H'
  refine lvlD (b := 0) (B := 1) (OR := ret []) (μ0 := μ1) (st0 := st1) (H0 := H1) ok (D := D) (f := turnF t own mc F ρ)
    (K := KK)
    (Fin := fun H => dkQ X (restR Q) (.ref D) H)
    (Turn := fun x H Nx => gT X.K t x (wipe σ own) H fun σ2 H2 => wipe σ2 own = wipe σ own ∧ RdT (gx X) NoW mc σ2 H2 fun b H3 => if b = true then RdE (gx X) NoW mk σ2 H3 fun y H4 => RdE (gx X) NoW me σ2 H4 fun z H5 => ∃ kvs k, y = kV k ∧ H5 D = some (.dK kvs) ∧ kvs.length < sizeLine ∧ Nx (upd H5 D (.dK (putK kvs k z))) else Nx H3)
    (Step.adv (.trans (.refl _ _ _) (Grown.new hD).step)) ⟨[], [], upd_same, sr1.grown (.new hD), by rw [del_upd, del_none hD]; exact sr1, by rw [del_upd, del_none hD]; exact .refl _ _ _, .nil, Nat.le_refl _, ?_⟩ (fun μ st H a h => h.fin) fun i v x μ st H Nx hi a rv h nx => ?_
  · rw [del_upd, del_none hD]
    have e : (fun zs : List (Dt × Dt) => bnd (ret []) fun ws => ret (zs ++ ws)) = ret := by
      funext zs
      rw [bnd_ret, List.append_nil]
    rw [e, ret_bnd]
    exact p2
  · refine tc_rdD ht (en1.adv a) rv h (fun μ2 st2 H2 s2 t2 => ?_) fun ρ' σ2 μ2 st2 H2 s2 hw en2 t2 => ?_
    · refine nx μ2 st2 H2 s2.adv (TSd.more (b := 0 + i * 1) (by omega) ?_)
      have e : (bnd (bnd (lcL gs st1 (turnF t own mc F ρ) (xs.drop (i + 1))) fun zs => bnd (ret []) fun ws => ret (zs ++ ws)) fun zs => ret ([] ++ zs)) =
        (bnd (lcL gs st1 (turnF t own mc F ρ) (xs.drop (i + 1))) fun zs => bnd (ret []) fun ws => ret (zs ++ ws)) := ret_bnd _
      rw [e] at t2
      exact t2
    · have t2' : TSd X D μ1 st1 H1 (0 + i * 1) (bnd (mk ρ') fun kv => bnd (bnd (me ρ') fun vv => bnd (pureD kv) fun y => bnd (pureD vv) fun z => bnd (opt (if flatKey y then some () else none)) fun _ => ret [(y, z)]) fun ys => bnd (bnd (lcL gs st1 (turnF t own mc F ρ) (xs.drop (i + 1))) fun zs => bnd (ret []) fun ws => ret (zs ++ ws)) fun zs => ret (ys ++ zs)) KK μ2 st2 H2 := by
        rw [← bnd_assoc]
        exact t2
      have sr2 : SR (gx X) μ2 st2 H2 := by obtain ⟨acc, ds, _, sr, _⟩ := t2; exact sr
      refine ⟨ρ', st2, μ2, en2, sr2, (TSd.step t2').imp fun kv μ3 st3 H3 s3 sr3 t3 y ry => ?_⟩
      rw [bnd_assoc] at t3
      refine ⟨ρ', st3, μ3, en2.step s3, sr3, (TSd.step t3).imp fun vv μ4 st4 H4 s4 sr4 t4 z rz => ?_⟩
      cases kv with
      | d dk =>
        cases vv with
        | d dy =>
          have t5 : TSd X D μ1 st1 H1 (0 + i * 1) (bnd (opt (if flatKey dk then some () else none)) fun _ => bnd (bnd (lcL gs st1 (turnF t own mc F ρ) (xs.drop (i + 1))) fun zs => bnd (ret []) fun ws => ret (zs ++ ws)) fun zs => ret ((dk, dy) :: zs)) KK μ4 st4 H4 := by
            simp only [bnd_assoc] at t4 ⊢
            exact t4
          cases hf : flatKey dk with
          | false =>
            rw [hf] at t5
            obtain ⟨acc, ds, _, _, _, _, _, _, pp⟩ := t5
            exact pp.elim
          | true =>
            rw [hf] at t5
            obtain ⟨q, hq⟩ := flatKey_ok hf
            obtain ⟨acc, hacc, hl, t6, a6⟩ := TSd.push (dk := dk) (dy := dy) (q := q) t5 hq rz
            have hi' : i < xs.length := hi
            have ey : y = kV q := by
              have ry' : RF _ _ _ _ _ _ := ry
              rcases fk_nk hq with ⟨j, e1, e2⟩ | ⟨j, e1, e2⟩
              · rw [e1, RF] at ry'; rw [ry', e2]; rfl
              · rw [e1, RF] at ry'; rw [ry', e2]; rfl
            refine ⟨acc, q, ey, hacc, by omega, nx μ4 st4 _ (((s2.trans s3).trans s4).adv.trans a6) ?_⟩
            have eb : 0 + i * 1 + 1 = 0 + (i + 1) * 1 := by omega
            rw [← eb]
            exact t6
        | _ => obtain ⟨acc, ds, _, _, _, _, _, _, pp⟩ := t4; exact pp.elim
      | _ => obtain ⟨acc, ds, _, _, _, _, _, _, pp⟩ := t4; exact pp.elim
theorem e_dc1 {kx vx tg iter : Expr} {ifs : List Expr} {scope : Scope} {own : List (Str × Nat)} {pos : Pos} {t : T} {m : Nat} {mi : Env → M (List Val × List Nat)} {mc : Env → M Bool} {mk me : Env → M Val} (hc : X.calm = true) (hN : X.N.Nodup) (ok : BlkOk X.N X.env.scope scope own)
    (ht : ∀ i ∈ t.slots, i ∈ own.map (·.2)) (hi : PI X tg iter (RdI (gx X) W mi)) (hg : ∀ s H C cl fp, PG (Blk X scope s H C cl fp) tg (gT X.K t)) (hq : ∀ s H C cl fp, PTs (Blk X scope s H C cl fp) ifs (RdT (gx X) NoW mc))
    (hk : ∀ s H C cl fp, PE (Blk X scope s H C cl fp) kx (RdE (gx X) NoW mk)) (he : ∀ s H C cl fp, PE (Blk X scope s H C cl fp) vx (RdE (gx X) NoW me)) (hs : ∀ x, foldedSetIterable iter X.env x = pure x) :
    PE X (.DictComp kx vx [⟨tg, iter, ifs, 0⟩] scope pos) (RdE (gx X) W (fun ρ => bnd (mi ρ) fun q => fun st => bnd (shut (lcL q.2 st (turnF t (own.map (·.2)) mc (fun ρ' => bnd (mk ρ') fun kv => bnd (me ρ') fun vv => bnd (pureD kv) fun y => bnd (pureD vv) fun z => bnd (opt (if flatKey y then some () else none)) fun _ => ret [(y, z)]) ρ) q.1)) (fun kvs => fresh m (.dict (putAll kvs))) st)) :=
  ⟨fun pins s σ H Q I h => thn (thn ((pe_dc hc hN hi ok hg hq hk he hs).run pins s σ H _ I (dc_rd ht h)) fun _ _ e => EP.dkQ e) fun _ _ e => EP.restR e⟩
end
end EV
end

section
set_option autoImplicit false
set_option linter.all false
set_option maxRecDepth 100000
set_option Elab.async false
set_option maxHeartbeats 3200000
/-! EvSet: set(list of ints), its length, sorted. -/
namespace EV
open PySem PySem.Spec
open PyProof.Rows
open L2
section
variable {P : Program} {w : World} {A : Around} {E : Value → Shared → Prop} {s : Shared}
/-- a set as it is made -/
abbrev newSet (w : World) : Obj := { cls := .type "set", dict := none, data := .set #[] 0 (.fresh 0 0 (!w.params.followText "set-order")) }
/-- what is wanted behind the filling -/
abbrev Filled (P : Program) (w : World) (s : Shared) (ns : List Int) (v : Value) (t : Shared) : Prop := v = .none ∧ ∃ h' tk c, t = { s with heap := h', toks := tk } ∧ SetR w h' s.heap.objs.size (fun j => decide (j ∈ ns)) c ∧ c ≤ ns.length ∧ ∀ b o, s.heap.get? b = some o → h'.get? b = some o
theorem set_called {arg : Value} {ns : List Int} {Q : Value → Shared → Prop}
    (fill : codeAny (model P w) A.in1 (.call (.builtin "set.__init__") ⟨[.ref s.heap.objs.size, arg], []⟩) (wants (Filled P w s ns) E) { s with heap := s.heap.push (newSet w) })
    (q : ∀ h' tk c, SetR w h' s.heap.objs.size (fun j => decide (j ∈ ns)) c → c ≤ ns.length → (∀ b o, s.heap.get? b = some o → h'.get? b = some o) → Q (.ref s.heap.objs.size) { s with heap := h', toks := tk }) :
    wpAny (model P w) A (call (.type "set") [arg]) Q E s := by
  obtain ⟨c0, tl0, m1⟩ := PySem.F.called_set.mro
  have m2 := PySem.F.called_set.made
  have m3 := PySem.F.called_set.sub
  have m4 := PySem.F.called_set.notType
  have m5 := PySem.F.called_set.canCreate
  have m6 := PySem.F.typeCall_set_1 arg
  refine wpAny_call (codeAny_of_tree (show wpAny _ _ (callAny (.type "set") _) _ _ _ from wpAny_pure ⟨Code.quiet_builtin _ (by decide +kernel), codeAny_builtin PySem.F.entry_type_call ?_⟩))
  rw [Around.under_plain (weight_type_call_type "set" [arg] []) rfl]
  repeat (any_goals (first | assumption | wp_step))
  refine codeAny_mono (code_set_led1 arg (E := E) (Q₁ := fun o t => o = .ref s.heap.objs.size ∧ t = { s with heap := s.heap.push (newSet w) }) ⟨rfl, rfl⟩) fun r t hr => ?_
  rcases r with e | fl
  · exact hr
  · cases fl with
    | ret o =>
      obtain ⟨rfl, rfl⟩ := hr
      have lay : (s.heap.push (newSet w)).get? s.heap.objs.size = some (newSet w) := Heap.get?_push_size _ rfl
      have ty : Shared.TypeIs { s with heap := s.heap.push (newSet w) } (.ref s.heap.objs.size) "set" := ⟨_, lay, rfl⟩
      have i1 := PySem.F.called_set.init.lookup
      have i2 := PySem.F.called_set.init.bind (.ref s.heap.objs.size)
      repeat (any_goals (first | assumption | wp_step))
      refine codeAny_mono fill fun r2 t2 hr2 => ?_
      rcases r2 with e | fl2
      · exact hr2
      · cases fl2 with
        | ret v =>
          obtain ⟨rfl, h', tk, c, rfl, z1, z2, z3⟩ := hr2
          repeat (any_goals (first | assumption | wp_step))
          exact q _ _ _ z1 z2 z3
        | _ => exact hr2.elim
    | _ => exact hr.elim
theorem fill_list {l : Addr} {items : Array Value} {ns : List Int} (hh : A.handled = none) (hl : s.heap.IsList l items) (hit : IntsAre items.toList ns) (hb : ns.length + 1 < scanBound) :
    codeAny (model P w) A.in1 (.call (.builtin "set.__init__") ⟨[.ref s.heap.objs.size, .ref l], []⟩) (wants (Filled P w s ns) E) { s with heap := s.heap.push (newSet w) } := by
  have sz : items.size = ns.length := (Array.length_toList (xs := items)).symm.trans (IntsAre.length hit)
  have lay : (s.heap.push (newSet w)).get? s.heap.objs.size = some (newSet w) := Heap.get?_push_size _ rfl
  have ty : Shared.TypeIs { s with heap := s.heap.push (newSet w) } (.ref s.heap.objs.size) "set" := ⟨_, lay, rfl⟩
  refine codeAny_call_builtin PySem.F.called_set.init.plain PySem.F.entry_set_init (check_set_init_1 ty ?_)
  obtain ⟨⟨kc, kd, kx, ks⟩, e0, c0, n0, d0⟩ := hl
  simp only at c0 d0
  subst c0
  subst d0
  have e1 : (s.heap.push (newSet w)).get? l = some { cls := .type "list", dict := kd, data := .seq items n0, slots := ks } := Heap.get?_push_of_some _ e0
  have u1 := PySem.F.sub_list_set
  have u2 := PySem.F.sub_list_frozenset
  have u3 : (Value.type "list" == Value.type "dict") = false := by decide
  have il : (s.heap.push (newSet w)).IsList l items := ⟨_, e1, rfl, n0, rfl⟩
  unfold Builtin.«set.__init__» noKeywords Builtin.Frozenset.updateFrom
  generalize hIt : pyIter = It0
  wp_walk
  subst hIt
  refine wpAny_pyIter_list il (wpAny_bind (wpAny_runValue ?_))
  have ls : l < s.heap.objs.size := Heap.lt_size e0
  have z1 : (s.heap.push (newSet w)).objs.size = s.heap.objs.size + 1 := Heap.size_push ..
  have lI : l ≠ (s.heap.push (newSet w)).objs.size := by rw [z1]; exact Nat.ne_of_lt (Nat.lt_succ_of_lt ls)
  have off : s.heap.objs.size ∉ [(s.heap.push (newSet w)).objs.size, l] := by
    rw [z1]
    intro m
    rcases List.mem_cons.mp m with m | m
    · exact Nat.ne_of_lt (Nat.lt_succ_self _) m
    · exact Nat.ne_of_gt ls (List.mem_singleton.mp m)
  have each : ∀ (i : Nat) (v : Value), items[i]? = some v → ∃ k t, ns[i]? = some k ∧ v = .int k t := fun i v hv => by
    have hi : i < ns.length := by rw [← sz]; exact (Array.getElem?_eq_some_iff.mp hv).1
    obtain ⟨t, e⟩ := IntsAre.int_at hit i v (by rw [Array.getElem?_toList]; exact hv)
    refine ⟨ns[i], t, List.getElem?_eq_getElem hi, ?_⟩
    rw [e, List.getD_eq_getElem?_getD, List.getElem?_eq_getElem hi] <;> rfl
  refine set_update_ints ((Walks.list (show A.in1.in1.in1.handled = none by simp [hh]) _ l lI items).toS) s.heap.objs.size off ns sz hb each items.size 0 _ rfl (Nat.zero_le _) ⟨⟨_, Heap.get?_push_size _ rfl, rfl, rfl⟩, il.push _⟩ ?start ?stop
  case start => exact ⟨0, Nat.le_refl 0, setR_new_at (Heap.get?_push_of_some _ lay)⟩
  case stop =>
    rintro ⟨h', g', d', tk', os'⟩ c mv le R
    have a1 : g' = s.gens := mv.gens
    have a2 : d' = s.drawn := mv.drawn
    have a3 : os' = s.os := mv.os
    subst a1
    subst a2
    subst a3
    refine wpAny_pure (show wpAny _ _ (PySem.ret Value.none) _ _ _ from wpAny_pure ⟨rfl, h', tk', c, rfl, R, by rw [← sz]; exact le, fun b o e => ?_⟩)
    have lt : b < s.heap.objs.size := Heap.lt_size e
    refine mv.heap b o (fun m => ?_) (Heap.get?_push_of_some _ (Heap.get?_push_of_some _ e))
    rcases List.mem_cons.mp m with m | m
    · exact Nat.ne_of_lt lt m
    · have m' := List.mem_singleton.mp m
      rw [z1] at m'
      exact Nat.ne_of_lt (Nat.lt_succ_of_lt lt) m'
theorem set_list {l : Addr} {items : Array Value} {ns : List Int} {Q : Value → Shared → Prop} (hh : A.handled = none) (hl : s.heap.IsList l items) (hit : IntsAre items.toList ns) (hb : ns.length + 1 < scanBound)
    (q : ∀ h' tk c, SetR w h' s.heap.objs.size (fun j => decide (j ∈ ns)) c → c ≤ ns.length → (∀ b o, s.heap.get? b = some o → h'.get? b = some o) → Q (.ref s.heap.objs.size) { s with heap := h', toks := tk }) :
    wpAny (model P w) A (call (.type "set") [.ref l]) Q E s := set_called (fill_list hh hl hit hb) q
end
/-! ### each once, ascending -/
theorem mem_insU {x y : Int} : ∀ {l : List Int}, y ∈ insU x l ↔ y = x ∨ y ∈ l
  | [] => by simp [insU]
  | z :: l => by
    unfold insU
    split
    · simp
    · split
      · rename_i e
        subst e
        simp
      · rw [List.mem_cons, mem_insU, List.mem_cons]
        constructor
        · rintro (h | h | h)
          · exact .inr (.inl h)
          · exact .inl h
          · exact .inr (.inr h)
        · rintro (h | h | h)
          · exact .inr (.inl h)
          · exact .inl h
          · exact .inr (.inr h)
theorem insU_asc {x : Int} : ∀ {l : List Int}, l.Pairwise (· < ·) → (insU x l).Pairwise (· < ·)
  | [], _ => by simp [insU]
  | z :: l, h => by
    unfold insU
    rw [List.pairwise_cons] at h
    split
    · rename_i c
      rw [List.pairwise_cons, List.pairwise_cons]
      refine ⟨fun y hy => ?_, h⟩
      rcases List.mem_cons.mp hy with rfl | hy
      · exact c
      · exact Int.lt_trans c (h.1 y hy)
    · split
      · rw [List.pairwise_cons]; exact h
      · rename_i c d
        rw [List.pairwise_cons]
        refine ⟨fun y hy => ?_, insU_asc h.2⟩
        rcases mem_insU.mp hy with rfl | hy
        · omega
        · exact h.1 y hy
theorem usort_asc : ∀ ns : List Int, (usort ns).Pairwise (· < ·)
  | [] => .nil
  | n :: ns => insU_asc (usort_asc ns)
theorem mem_usort {k : Int} : ∀ {ns : List Int}, k ∈ usort ns ↔ k ∈ ns
  | [] => Iff.rfl
  | n :: ns => by
    show k ∈ insU n (usort ns) ↔ _
    rw [mem_insU, mem_usort, List.mem_cons]
theorem asc_one : ∀ {xs ys : List Int}, xs.Pairwise (· < ·) → ys.Pairwise (· < ·) → (∀ k, k ∈ xs ↔ k ∈ ys) → xs = ys
  | [], [], _, _, _ => rfl
  | [], y :: ys, _, _, h => absurd ((h y).mpr List.mem_cons_self) (by simp)
  | x :: xs, [], _, _, h => absurd ((h x).mp List.mem_cons_self) (by simp)
  | x :: xs, y :: ys, h1, h2, h => by
    rw [List.pairwise_cons] at h1 h2
    have e : x = y := by
      rcases List.mem_cons.mp ((h x).mp List.mem_cons_self) with e | e
      · exact e
      · rcases List.mem_cons.mp ((h y).mpr List.mem_cons_self) with e2 | e2
        · exact e2.symm
        · have a1 := h2.1 x e
          have a2 := h1.1 y e2
          omega
    subst e
    rw [asc_one h1.2 h2.2 fun k => ?_]
    constructor
    · intro hk
      rcases List.mem_cons.mp ((h k).mp (List.mem_cons_of_mem _ hk)) with e | e
      · have := h1.1 k hk; omega
      · exact e
    · intro hk
      rcases List.mem_cons.mp ((h k).mpr (List.mem_cons_of_mem _ hk)) with e | e
      · have := h2.1 k hk; omega
      · exact e
theorem asc_nodup {xs : List Int} (h : xs.Pairwise (· < ·)) : xs.Nodup := h.imp fun a => Int.ne_of_lt a
section
variable {X : Cx} {W : WX} {pins : List (Addr × Obj)} {σ : L2.St} {H : Hp} {s : Shared}
theorem vals_are : ∀ {ns : List Int} {us : List Value}, Vals (ns.map V.int) us → IntsAre us ns
  | [], _, .nil => .nil
  | n :: ns, _, .cons r t => by
    obtain ⟨k, rfl⟩ := r
    exact .cons n k (vals_are t)
theorem set_any {d : Dt} {ds : List Dt} {ns : List Int} {x : V} {u : Value} {E : Value → Shared → Prop} (hc : X.calm = true) (I : Inv X pins σ H s) (rt : RT (gx X) H d x) (r : RelV x u) (e1 : seqD d = some ds) (e2 : intsOf ds = some ns) (hl : ns.length ≤ 1000) :
    wpAny (model X.prog X.w) X.A (call (.type "set") [u]) (fun v s1 => ∃ a c, v = .ref a ∧ Inv X pins σ H s1 ∧ SetR X.w s1.heap a (fun j => decide (j ∈ ns)) c ∧ c ≤ ns.length) E s := by
  have sb : ns.length + 1 < scanBound := by unfold scanBound; omega
  cases d with
  | list xs =>
    cases e1
    obtain ⟨a, vs, rfl, h1, h2⟩ := rt.list
    cases r
    obtain ⟨hz, its, n, lo, rv, _, g, g1, g2, g3⟩ := Inv.rdl I h1
    obtain ⟨rfl, _⟩ := h2.ints e2
    exact set_list (I.ok.hd hc) (items := its.toArray) ⟨lo, g, g1, n, g3⟩ (by simpa using vals_are rv) sb fun h' tk c R le kp => ⟨_, c, rfl, I.kept (t' := tk) kp, R, le⟩
  | tuple xs =>
    cases e1
    obtain ⟨a, vs, rfl, h1, h2⟩ := rt.tuple
    cases r
    obtain ⟨its, rv, ⟨o, g1, g2, n, g3⟩, hz⟩ := I.tuple h1
    obtain ⟨rfl, _⟩ := h2.ints e2
    exact call_set_tupI (items := its.toArray) ns (I.ok.hd hc) ⟨o, g1, g2, n, g3⟩ (by simpa using vals_are rv) sb fun h' tk c R le kp => ⟨_, c, rfl, I.kept (t' := tk) kp, R, le⟩
  | _ => cases e1
theorem b1_set {x z : Dt} (h : b1D .lenset x = some z) : ∃ ds ns, seqD x = some ds ∧ intsOf ds = some ns ∧ ns.length ≤ 1000 ∧ z = .int (usort ns).length := by
  have go : ∀ {xs : List Dt}, ((intsOf xs).bind fun ns => if decide (ns.length ≤ 1000) then some (PyData.int (usort ns).length) else none) = some z → ∃ ns, intsOf xs = some ns ∧ ns.length ≤ 1000 ∧ z = .int (usort ns).length := fun {xs} e => by
    obtain ⟨ns, e1, e2⟩ := Option.bind_eq_some_iff.mp e
    split at e2
    · rename_i c
      cases e2
      exact ⟨ns, e1, of_decide_eq_true c, rfl⟩
    · cases e2
  cases x with
  | list xs => obtain ⟨ns, a, b, c⟩ := go h; exact ⟨xs, ns, rfl, a, b, c⟩
  | tuple xs => obtain ⟨ns, a, b, c⟩ := go h; exact ⟨xs, ns, rfl, a, b, c⟩
  | _ => cases h
theorem b1_sort {x z : Dt} (h : b1D .sortset x = some z) : ∃ ds ns, seqD x = some ds ∧ intsOf ds = some ns ∧ ns.length < 64 ∧ z = .list ((usort ns).map .int) := by
  have go : ∀ {xs : List Dt}, ((intsOf xs).bind fun ns => if decide (ns.length < 64) then some (PyData.list ((usort ns).map .int)) else none) = some z → ∃ ns, intsOf xs = some ns ∧ ns.length < 64 ∧ z = .list ((usort ns).map .int) := fun {xs} e => by
    obtain ⟨ns, e1, e2⟩ := Option.bind_eq_some_iff.mp e
    split at e2
    · rename_i c
      cases e2
      exact ⟨ns, e1, of_decide_eq_true c, rfl⟩
    · cases e2
  cases x with
  | list xs => obtain ⟨ns, a, b, c⟩ := go h; exact ⟨xs, ns, rfl, a, b, c⟩
  | tuple xs => obtain ⟨ns, a, b, c⟩ := go h; exact ⟨xs, ns, rfl, a, b, c⟩
  | _ => cases h
variable {a : Expr} {ma : Env → M Val} {pos pf p2 q2 : Pos}
theorem e_lenset {m : Nat} (hc : X.calm = true) (hg : Gl X "len") (hm : X.mg "len" = none) (hg2 : Gl X "set") (hm2 : X.mg "set" = none) (ha : PE X a (RdE (gx X) W ma)) (na : starEach [a] X.env = (false, eval a X.env) :: starEach [] X.env) :
    PE X (.Call (.Name "len" pf) [.Call (.Name "set" p2) [a] [] q2] [] pos) (RdE (gx X) W fun ρ => bnd (ma ρ) fun v => bnd (dat v) fun x => bnd (opt (b1D .lenset x)) fun z => fresh m z) := by
  refine ⟨fun pins s σ H Q I h => thn (Q := EP X pins σ (restR Q)) ?_ fun _ _ e => EP.restR e⟩
  refine Call_ (ld_blt I hg hm PySem.boot_len (PyProof.Rows.callWith_builtin1 (PyProof.Rows.args_cons ?_ rfl) rfl rfl))
  refine Call_ (ld_blt I hg2 hm2 PyProof.Rows.boot_set (PyProof.Rows.callWith_type1 (PyProof.Rows.args_cons (thn (ha.run pins s σ H _ I (b1_one h)) fun v s1 ⟨x, H1, I1, r1, d, z, rt, e, q⟩ => PyProof.Rows.args_nil ?_) na) na rfl))
  obtain ⟨ds, ns, e1, e2, hl, rfl⟩ := b1_set e
  refine thn (set_any hc I1 rt r1 e1 e2 hl) fun v s2 ⟨b, c, ev, I2, R, le⟩ => PyProof.Rows.args_nil ?_
  subst ev
  obtain ⟨o, es, ep, t, ho, hex, hd, g, nd, hmm, hbb, hf, hn, hr, hll⟩ := R
  have size : es.size = (usort ns).length := by
    have p := (List.perm_ext_iff_of_nodup nd (asc_nodup (usort_asc ns))).mpr fun k => by rw [mem_usort, ← hmm k]; simp
    have := p.length_eq
    rw [List.length_map, Array.length_toList] at this
    exact this
  refine call_len_set ho hex hd hf (by rw [hn]; omega) ⟨.int _, H1, I2.tok _, ⟨_, rfl⟩, ?_⟩
  rw [size]
  exact q _ H1 (.refl _) (by show RF _ _ _ _ _ _; rw [RF])
theorem e_sortset {m : Nat} (hc : X.calm = true) (hg : Gl X "sorted") (hm : X.mg "sorted" = none) (hg2 : Gl X "set") (hm2 : X.mg "set" = none) (ha : PE X a (RdE (gx X) W ma)) (na : starEach [a] X.env = (false, eval a X.env) :: starEach [] X.env) :
    PE X (.Call (.Name "sorted" pf) [.Call (.Name "set" p2) [a] [] q2] [] pos) (RdE (gx X) W fun ρ => bnd (ma ρ) fun v => bnd (dat v) fun x => bnd (opt (b1D .sortset x)) fun z => fresh m z) := by
  refine ⟨fun pins s σ H Q I h => thn (Q := EP X pins σ (restR Q)) ?_ fun _ _ e => EP.restR e⟩
  refine Call_ (ld_blt I hg hm boot_sorted (PyProof.Rows.callWith_builtin1 (PyProof.Rows.args_cons ?_ rfl) rfl rfl))
  refine Call_ (ld_blt I hg2 hm2 PyProof.Rows.boot_set (PyProof.Rows.callWith_type1 (PyProof.Rows.args_cons (thn (ha.run pins s σ H _ I (b1_one h)) fun v s1 ⟨x, H1, I1, r1, d, z, rt, e, q⟩ => PyProof.Rows.args_nil ?_) na) na rfl))
  obtain ⟨ds, ns, e1, e2, hl, rfl⟩ := b1_sort e
  refine thn (set_any hc I1 rt r1 e1 e2 (by omega)) fun v s2 ⟨b, c, ev, I2, R, le⟩ => PyProof.Rows.args_nil ?_
  subst ev
  refine L2.sorted_set R (I2.ok.hd hc) (by omega) fun s' p out n ks k gg oo hp hgt hi hs hmem hln => ?_
  have eu : ks = usort ns := asc_one hs (usort_asc ns) fun j => by rw [hmem, mem_usort]; simp
  have hlen : (ks.map V.int).length ≤ sizeLine := by
    rw [List.length_map, hln, sizeLine_eq]; omega
  have hn : H1 p = none := I2.hok.fresh hp
  have J : Inv X pins σ (upd H1 p (.lst (ks.map V.int))) { s2 with heap := s'.heap, gens := s'.gens, drawn := s'.drawn, toks := s'.toks } :=
    I2.call (ch := []) (Un.laid k hp hn) (I2.hok.laid k hp ⟨hlen, out.toList, n, vals_of_ints hi, hgt⟩) (by rw [gg]; exact I2.bare) (fun _ z => nomatch z)
  have es : s' = { s2 with heap := s'.heap, gens := s'.gens, drawn := s'.drawn, toks := s'.toks } := by
    obtain ⟨b1, b2, b3, b4, b5⟩ := s'
    obtain ⟨c1, c2, c3, c4, c5⟩ := s2
    simp only at oo
    subst oo
    rfl
  rw [es]
  refine ⟨.ref p, _, J, rfl, q H1 p _ (.refl _) hn ?_⟩
  rw [eu]
  clear q e1 e2 le rt R
  induction usort ns with
  | nil => exact RFs.nil
  | cons a l ih => exact RFs.cons (by rw [RF]) ih
end
end EV
end

section
set_option autoImplicit false
set_option linter.all false
set_option maxRecDepth 100000
set_option Elab.async false
/-! EvX: what is seen of a text. -/
namespace EV
open PySem PySem.Spec
open PyProof.Rows
open L2
/-- neither starred, nor a slice, nor a set -/
def plainE : Expr → Bool
  | .Starred .. => false
  | .Slice .. => false
  | .Set .. => false
  | _ => true
theorem star_cons {a : Expr} {es : List Expr} {env : PySem.Env} (h : plainE a = true) : starEach (a :: es) env = (false, eval a env) :: starEach es env := by
  cases a <;> first | rfl | cases h
theorem star_one {a : Expr} {env : PySem.Env} (h : plainE a = true) : starEach [a] env = [(false, eval a env)] := star_cons h
theorem star_any {pos : Pos} {env : PySem.Env} : ∀ {es : List Expr}, es.all plainE = true → (backTo pos (starEach es env)).any (·.1) = false
  | [], _ => rfl
  | a :: es, h => by
    rw [List.all_cons, Bool.and_eq_true] at h
    rw [star_cons h.1]
    show (false || (backTo pos (starEach es env)).any (·.1)) = false
    rw [star_any h.2]
    rfl
theorem star_all {pos : Pos} {env : PySem.Env} : ∀ {es : List Expr}, es.all plainE = true → (backTo pos (starEach es env)).all (fun x => !x.1) = true
  | [], _ => rfl
  | a :: es, h => by
    rw [List.all_cons, Bool.and_eq_true] at h
    rw [star_cons h.1]
    show (true && (backTo pos (starEach es env)).all (fun x => !x.1)) = true
    rw [star_all h.2]
    rfl
theorem few_of {pos : Pos} {env : PySem.Env} {es : List Expr} (h : es.all plainE = true) (hl : es.length < 30) :
    ((backTo pos (starEach es env)).all (fun x => !x.1) && (backToKw pos (keywordEach [] env)).all (fun x => x.1.isSome) && decide (es.length + ([] : List Keyword).length + (if ([] : List Keyword).isEmpty then 0 else 1) < 30)) = true := by
  rw [star_all h]
  show (true && true && decide (es.length + 0 + 0 < 30)) = true
  simp [hl]
theorem plain_ix {b : Expr} (h : plainE b = true) : PlainIx b := fun o i => by
  cases b <;> first | rfl | cases h
/-- its truth is its value's -/
def isVal : Expr → Bool
  | .UnaryOp .Not .. => false
  | .BoolOp .. => false
  | .IfExp .. => false
  | .Compare .. => false
  | _ => true
theorem val_true {a : Expr} {env : PySem.Env} (h : isVal a = true) : ∀ whole, isTrue a env whole = (do let v ← whole; standAt a.pos; holding [v] (truthy v)) := fun whole => by
  cases a with
  | UnaryOp op x p => cases op <;> first | rfl | cases h
  | _ => first | rfl | cases h
/-- no call without arguments -/
def baseE : Expr → Bool
  | .Call .. => false
  | _ => true
theorem base_of {o : Expr} {n : Str} {env : PySem.Env} (h : baseE o = true) : attributeBase o n env (eval o env) = eval o env := by
  cases o <;> first | rfl | cases h
theorem fold_of {e : Expr} {env : PySem.Env} (h : plainE e = true) : ∀ x, foldedSetIterable e env x = pure x := fun x => by
  cases e <;> first | rfl | cases h
/-- no comprehension -/
def noComp : Expr → Bool
  | .ListComp .. => false
  | .SetComp .. => false
  | .DictComp .. => false
  | _ => true
theorem sw_no {e : Expr} {t : Option Expr} {l : Nat} {env : PySem.Env} (h : noComp e = true) : swapsWith e t l env = pure false := by
  cases e <;> first | rfl | cases h
def noTup : Expr → Bool
  | .Tuple .. => false
  | .List .. => false
  | _ => true
theorem sp_no {t e : Expr} {env : PySem.Env} (h : noTup t = true) : swappedStores [t] e env = pure none := by
  cases t <;> first | rfl | cases h
theorem sp_no2 {t e : Expr} {env : PySem.Env} (h : noTup e = true) : swappedStores [t] e env = pure none := by
  cases t <;> first | rfl | (cases e <;> first | rfl | cases h)
def nameE : Expr → Bool
  | .Name .. => true
  | _ => false
theorem asg_one {t : Expr} {env : PySem.Env} (h : plainE t = true) : (assignEach [t] env).map (·.2) = [assign t env] := by
  cases t <;> first | rfl | cases h
theorem asg_cons {t : Expr} {ts : List Expr} {env : PySem.Env} (h : plainE t = true) : assignEach (t :: ts) env = (false, assign t env) :: assignEach ts env := by
  cases t <;> first | rfl | cases h
def notStar : Expr → Bool
  | .Starred .. => false
  | _ => true
theorem par_any {a b : Expr} (ha : plainE a = true) (hb : plainE b = true) : ([a, b].any fun | .Starred .. => true | _ => false) = false := by
  cases a <;> first | (cases b <;> first | rfl | exact Bool.noConfusion hb) | exact Bool.noConfusion ha
theorem sp_two {env : PySem.Env} {x y : Str} {a b : Expr} {px py pt pt2 : Pos} {kt k2 : Nat} (hk : env.scope.kind = .function) (hx : env.scope.names.lookup x = some .local) (hy : env.scope.names.lookup y = some .local) (hxy : x ≠ y) (hl : (py.line == px.line) = true)
    (hf : ([a, b].all (foldedForSure 8)) = false) (hf2 : (constantsAlone 8 a && constantsAlone 8 b) = false) (ha : plainE a = true) (hb : plainE b = true) : swappedStores [.Tuple [.Name x px, .Name y py] kt pt] (.Tuple [a, b] k2 pt2) env = pure (some [x, y]) := by
  have hbk : env.blockKind = .function := by unfold Env.blockKind; rw [hk]; rfl
  have kx : env.kindOf x = some .local := hx
  have ky : env.kindOf y = some .local := hy
  have hne : (x == y) = false := by simpa using hxy
  have hne' : (y == x) = false := by simpa using fun e => hxy e.symm
  unfold swappedStores
  simp only [hbk, par_any ha hb, hf, List.filterMap_cons, List.filterMap_nil, kx, ky, List.head?_cons, Option.map_some, Option.getD_some, Expr.pos, hl, beq_self_eq_true, Bool.and_self, List.length_cons, List.length_nil]
  have sa : (match a with | .Starred .. => true | _ => false) = false := by cases a <;> first | rfl | exact Bool.noConfusion ha
  have sb : (match b with | .Starred .. => true | _ => false) = false := by cases b <;> first | rfl | exact Bool.noConfusion hb
  have h2 : ¬ (constantsAlone 8 a = true ∧ constantsAlone 8 b = true) := by
    rw [← Bool.and_eq_true, hf2]
    exact Bool.false_ne_true
  simp [List.eraseDups_cons, hne, hne', kx, ky, hl, hf, h2]
  intro h
  rcases h with h | h
  · cases a <;> first | exact Bool.noConfusion ha | cases h
  · cases b <;> first | exact Bool.noConfusion hb | cases h
end EV
end

section
set_option autoImplicit false
set_option linter.all false
set_option maxRecDepth 100000
set_option Elab.async false
/-! EvY: whether a term tells a text: the check, by Bool. -/
namespace EV
open PySem PySem.Spec
open PyProof.Rows
open L2
/-- what is known of the names -/
structure MC where
  N : List Str
  sc : Scope
  fn : Str → Bool
  fs : List Str
  gs : List Str
  bl : List Str
  gcd : Bool
def MC.blk (M : MC) (scope : Scope) : MC := { M with sc := relS scope M.sc, fn := fun x => scope.names.lookup x == some .cell }
def visC (sc : Scope) (x : Str) : Bool := match sc.names.lookup x with
  | some .local => true
  | some .cell => true
  | some .free => true
  | _ => false
def locC (M : MC) (x : Str) : Bool := match M.sc.names.lookup x with
  | some .local => true
  | some .cell => M.fn x
  | _ => false
def glC (sc : Scope) (x : Str) : Bool := match sc.names.lookup x with
  | some .globalImplicit => true
  | _ => false
def okN (x : Str) : Bool := !(x == ("__debug__" : Str)) && !(x == ("__classdict__" : Str)) && decide (x ≠ ("__name__" : Str))
def bltC (M : MC) (x : Str) : Bool := glC M.sc x && M.bl.contains x && okN x
def sameC : Const → Const → Bool
  | .none, .none => true
  | .bool a, .bool b => decide (a = b)
  | .int a, .int b => decide (a = b)
  | .str a, .str b => decide (a = b)
  | _, _ => false
/-- functions of one argument -/
def b1F : B1 → Option Str
  | .len => some "len"
  | .all => some "all"
  | .any => some "any"
  | .sum => some "sum"
  | .abs => some "abs"
  | .max => some "max"
  | .min => some "min"
  | .sorted => some "sorted"
  | _ => none
/-- classes called -/
def b1T : B1 → Option Str
  | .int => some "int"
  | .list => some "list"
  | .tuple => some "tuple"
  | .dict => some "dict"
  | _ => none
def b2F : B2 → Option Str
  | .min => some "min"
  | .max => some "max"
  | _ => none
def tyC (M : MC) (t : Str) (c : Ty) : Bool := bltC M t && decide (t = Str.ofString c.nm) && decide (c ≠ .none)
def Es.len : Es → Nat
  | .nil => 0
  | .cons _ es => es.len + 1
def mT (M : MC) : List Nat → List Expr → Bool
  | [], [] => true
  | i :: is, .Name x _ :: es => decide (M.N[i]? = some x) && locC M x && mT M is es
  | _, _ => false
def mTg (M : MC) : T → Expr → Bool
  | .nm i, x => mT M [i] [x]
  | .tp is, .Tuple es _ _ => mT M is es
  | _, _ => false
def ownP (M : MC) (own : List Nat) : List (Str × Nat) := own.map fun i => (M.N.getD i "", i)
def isiC (M : MC) : List Ty → Expr → Bool
  | [c], .Name t _ => tyC M t c
  | [c, d], .Tuple [.Name t _, .Name u _] _ _ => tyC M t c && tyC M u d
  | _, _ => false
def mtC (f : Mt) (n : Str) (k : Nat) : Bool := match f with
  | .append => decide (n = ("append" : Str)) && decide (k = 1)
  | .extend => decide (n = ("extend" : Str)) && decide (k = 1)
  | .pop => decide (n = ("pop" : Str)) && decide (k = 0)
  | .popAt => decide (n = ("pop" : Str)) && decide (k = 1)
  | _ => false
mutual
def mE (M : MC) : E → Expr → Bool
  | .var i, x => (match x with | .Name y _ => decide (M.N[i]? = some y) && visC M.sc y && okN y | _ => false)
  | .con c, x => (match x with | .Constant k _ _ => sameC k c | _ => false)
  | .glb j, x => (match x with | .Name y _ => decide (M.gs[j]? = some y) && glC M.sc y && okN y | _ => false)
  | .tup es, x => (match x with | .Tuple vs _ _ => decide (vs.length ≤ 1000) && vs.all plainE && mEs M es vs | _ => false)
  | .lst _ es, x => (match x with | .List vs _ => decide (vs.length ≤ 1000) && vs.all plainE && mEs M es vs | _ => false)
  | .dct _ es, x => (match x with | .Dict ks vs _ => decide (ks.length = vs.length) && decide (ks.length ≤ 15) && mPs M es ks vs | _ => false)
  | .dcv ks es, x => (match x with | .Dict ls vs _ => decide (ls.length = vs.length) && decide (ls.length ≤ 15) && decide (ks.length ≤ 15) && decide ks.Nodup && !ls.isEmpty && mKs M ks es ls vs | _ => false)
  | .bin o a b, x => (match x with | .BinOp a' o' b' _ => decide (o' = o) && mE M a a' && mE M b b' | _ => false)
  | .neg a, x => (match x with | .UnaryOp .USub a' _ => mE M a a' | _ => false)
  | .cmp o a b, x => (match x with | .Compare a' [o'] [b'] _ => decide (o' = o) && !behindInMarks o b' && mE M a a' && mE M b b' | _ => false)
  | .chn o p a b c, x => (match x with | .Compare a' [o', p'] [b', c'] _ => decide (o' = o) && decide (p' = p) && !lastMarks [o, p] [b', c'] && mE M a a' && mE M b b' && mE M c c' | _ => false)
  | .not a, x => (match x with | .UnaryOp .Not a' _ => mE M a a' | _ => false)
  | .and es, x => (match x with | .BoolOp .And vs _ => !vs.isEmpty && mEs M es vs | _ => false)
  | .or es, x => (match x with | .BoolOp .Or vs _ => !vs.isEmpty && mEs M es vs | _ => false)
  | .ife c a b, x => (match x with | .IfExp c' a' b' _ => mE M c c' && mE M a a' && mE M b b' | _ => false)
  | .idx a b, x => (match x with | .Subscript a' b' _ => plainE b' && mE M a a' && mE M b b' | _ => false)
  | .sli a lo hi, x => (match x with | .Subscript a' (.Slice l h none _) _ => mE M a a' && mO M lo l && mO M hi h | _ => false)
  | .call j es, x => (match x with | .Call (.Name y _) vs [] _ => decide (M.fs[j]? = some y) && glC M.sc y && okN y && vs.all plainE && mEs M es vs | _ => false)
  | .b1 f _ a, x => (match x with
    | .Call (.Name y _) [z] [] pos => (match f, z with
      | .listvals, .Call (.Attribute o n apos) [] [] cpos => decide (y = ("list" : Str)) && bltC M y && decide (n = ("values" : Str)) && baseE o && (apos.endLine == cpos.line) && mE M a o
      | .sortedvals, .Call (.Attribute o n apos) [] [] cpos => decide (y = ("sorted" : Str)) && bltC M y && decide (n = ("values" : Str)) && baseE o && (apos.endLine == cpos.line) && mE M a o
      | .lenset, .Call (.Name r _) [w] [] _ => decide (y = ("len" : Str)) && decide (r = ("set" : Str)) && bltC M y && bltC M r && plainE w && mE M a w
      | .sortset, .Call (.Name r _) [w] [] _ => decide (y = ("sorted" : Str)) && decide (r = ("set" : Str)) && bltC M y && bltC M r && plainE w && mE M a w
      | f, z => (decide (b1F f = some y) || decide (b1T f = some y)) && bltC M y && plainE z && mE M a z)
    | _ => false)
  | .b2 f a b, x => (match x with | .Call (.Name y _) [a', b'] [] _ => ((decide (b2F f = some y) && bltC M y) || (decide (f = .gcd) && M.gcd && decide (y = ("gcd" : Str)) && glC M.sc y && okN y)) && plainE a' && plainE b' && mE M a a' && mE M b b' | _ => false)
  | .isi a ts, x => (match x with | .Call (.Name y _) [a', t'] [] _ => decide (y = ("isinstance" : Str)) && bltC M y && plainE a' && mE M a a' && isiC M ts t' | _ => false)
  | .mt f o es, x => (match x with | .Call (.Attribute o' n apos) vs [] cpos => baseE o' && (apos.endLine == cpos.line) && vs.all plainE && decide (vs.length < 30) && mE M o o' && mEs M es vs && mtC f n vs.length | _ => false)
  | .itl f _ it, x => (match f, it with
    | .list, .rg1 a => (match x with | .Call (.Name y _) [.Call (.Name r _) [a'] [] _] [] _ => decide (y = ("list" : Str)) && decide (r = ("range" : Str)) && bltC M y && bltC M r && plainE a' && mE M a a' | _ => false)
    | _, _ => false)
  | .lc1 _ elt t it c own, x => (match x with | .ListComp elt' [⟨tg, iter, ifs, 0⟩] scope _ => blkC M.N M.sc scope (ownP M own) && decide (∀ i ∈ t.slots, i ∈ own) && plainE iter && mI M it tg iter && mTg (M.blk scope) t tg && decide (ifs.length ≤ 1) && mEs (M.blk scope) c ifs && mE (M.blk scope) elt elt' | _ => false)
  | .lc2 _ elt t it c t1 it1 c1 own own1, x => (match x with | .ListComp elt' [⟨tg, iter, ifs, 0⟩, ⟨tg1, iter1, ifs1, 0⟩] scope _ => blkC M.N M.sc scope (ownP M own) && decide (∀ i ∈ own1, i ∈ own) && decide (∀ i ∈ t.slots, i ∈ own) && decide (∀ i ∈ t1.slots, i ∈ own1) && plainE iter && plainE iter1 && mI M it tg iter && mTg (M.blk scope) t tg && decide (ifs.length ≤ 1) && mEs (M.blk scope) c ifs && mI (M.blk scope) it1 tg1 iter1 && mTg (M.blk scope) t1 tg1 && decide (ifs1.length ≤ 1) && mEs (M.blk scope) c1 ifs1 && mE (M.blk scope) elt elt' | _ => false)
  | .dc1 _ k v t it c own, x => (match x with | .DictComp k' v' [⟨tg, iter, ifs, 0⟩] scope _ => blkC M.N M.sc scope (ownP M own) && decide (∀ i ∈ t.slots, i ∈ own) && plainE iter && mI M it tg iter && mTg (M.blk scope) t tg && decide (ifs.length ≤ 1) && mEs (M.blk scope) c ifs && mE (M.blk scope) k k' && mE (M.blk scope) v v' | _ => false)
  | .frz a, x => isVal x && mE M a x
  | _, _ => false
def mO (M : MC) : Eo → Option Expr → Bool
  | .none, x => (match x with | none => true | _ => false)
  | .some e, x => (match x with | some y => mE M e y | _ => false)
def mEs (M : MC) : Es → List Expr → Bool
  | .nil, x => (match x with | [] => true | _ => false)
  | .cons e es, x => (match x with | y :: ys => mE M e y && mEs M es ys | _ => false)
/-- keys and values -/
def mPs (M : MC) : Es → List (Option Expr) → List Expr → Bool
  | .nil, x, y => (match x, y with | [], [] => true | _, _ => false)
  | .cons k es, x, y => (match x with | some k' :: ks => (match es with | .cons v r => (match y with | v' :: vs => mE M k k' && mE M v v' && mPs M r ks vs | _ => false) | .nil => false) | _ => false)
def mKs (M : MC) : List Str → Es → List (Option Expr) → List Expr → Bool
  | n, .nil, x, y => (match n, x, y with | [], [], [] => true | _, _, _ => false)
  | n, .cons v r, x, y => (match n, x, y with | k :: ks, some (.Constant (.str k') _ _) :: ls, v' :: vs => decide (k' = k) && mE M v v' && mKs M ks r ls vs | _, _, _ => false)
def mI (M : MC) : Ir → Expr → Expr → Bool
  | .val e, _, x => mE M e x
  | .rg1 a, _, x => (match x with | .Call (.Name y _) [a'] [] _ => decide (y = ("range" : Str)) && bltC M y && plainE a' && mE M a a' | _ => false)
  | .rg2 a b, _, x => (match x with | .Call (.Name y _) [a', b'] [] _ => decide (y = ("range" : Str)) && bltC M y && plainE a' && plainE b' && mE M a a' && mE M b b' | _ => false)
  | .zip a b, tg, x => (match tg with | .Tuple _ _ _ => (match x with | .Call (.Name y _) [a', b'] [] _ => decide (y = ("zip" : Str)) && bltC M y && plainE a' && plainE b' && mE M a a' && mE M b b' | _ => false) | _ => false)
  | _, _, _ => false
end
end EV
end

section
set_option autoImplicit false
set_option linter.all false
set_option maxRecDepth 100000
set_option Elab.async false
/-! EvOk: a term that tells a text is right about it. -/
namespace EV
open PySem PySem.Spec
open PyProof.Rows
open L2
structure Gd (M : MC) (X : Cx) (C : Ctx) (W : WX) : Prop where
  calm : X.calm = true
  nd : X.N.Nodup
  N : X.N = M.N
  sc : X.env.scope = M.sc
  fn : X.fn = M.fn
  un : X.A.units + 100 < cLine
  fs : ∀ (j : Nat) (x : Str), M.fs[j]? = some x → ∃ f, C.fs[j]? = some (x, f) ∧ FnFact X x f
  gs : ∀ (j : Nat) (x : Str), M.gs[j]? = some x → ∃ d, C.gs[j]? = some (x, d) ∧ GFact X x d
  bl : ∀ x, x ∈ M.bl → X.mg x = none
  gcd : M.gcd = true → X.mg "gcd" = some (.builtin "math.gcd")
  tk : Takes X W
section
variable {M : MC} {X : Cx} {C : Ctx} {W : WX}
theorem Gd.blk (g : Gd M X C W) (scope : Scope) (s : Shared) (H : Hp) (D : Addr) (cl : List (Str × Addr)) (fp : List Addr) : Gd (M.blk scope) (Blk X scope s H D cl fp) C NoW where
  calm := g.calm
  nd := g.nd
  N := g.N
  sc := by
    show relabel scope X.env = relS scope M.sc
    rw [← g.sc]
    rfl
  fn := rfl
  un := g.un
  fs := g.fs
  gs := g.gs
  bl := g.bl
  gcd := g.gcd
  tk := takes0
theorem visC_ok {sc : Scope} {x : Str} (h : visC sc x = true) : Vis sc x := by
  unfold visC at h
  unfold Vis
  split at h
  · rename_i e; exact .inl e
  · rename_i e; exact .inr (.inl e)
  · rename_i e; exact .inr (.inr e)
  · cases h
theorem Gd.vis (g : Gd M X C W) {x : Str} (h : visC M.sc x = true) : Vis X.env.scope x := by rw [g.sc]; exact visC_ok h
theorem Gd.gl (g : Gd M X C W) {x : Str} (h : glC M.sc x = true) : Gl X x := by
  unfold glC at h
  show X.env.scope.names.lookup x = some .globalImplicit
  rw [g.sc]
  split at h
  · assumption
  · cases h
theorem okN_ok {x : Str} (h : okN x = true) : (x == ("__debug__" : Str)) = false ∧ (x == ("__classdict__" : Str)) = false ∧ x ≠ "__name__" := by
  unfold okN at h
  simp only [Bool.and_eq_true, decide_eq_true_eq, Bool.not_eq_true'] at h
  exact ⟨h.1.1, h.1.2, h.2⟩
theorem Gd.blt (g : Gd M X C W) {x : Str} (h : bltC M x = true) : Gl X x ∧ X.mg x = none ∧ (x == ("__debug__" : Str)) = false ∧ x ≠ "__name__" := by
  unfold bltC at h
  simp only [Bool.and_eq_true] at h
  obtain ⟨h1, _, h2⟩ := okN_ok h.2
  exact ⟨g.gl h.1.1, g.bl x (by simpa using h.1.2), h1, h2⟩
theorem Gd.ix (g : Gd M X C W) {i : Nat} {x : Str} (h : M.N[i]? = some x) : X.N[i]? = some x := by rw [g.N]; exact h
theorem Gd.loc (g : Gd M X C W) {x : Str} (h : locC M x = true) : Loc X.env.scope x ∧ (X.fn x = true ∨ X.env.scope.names.lookup x = some .local) := by
  unfold locC at h
  rw [g.sc, g.fn]
  split at h
  · rename_i e; exact ⟨.inl e, .inr e⟩
  · rename_i e; exact ⟨.inr e, .inl h⟩
  · cases h
theorem sameC_ok {a b : Const} (h : sameC a b = true) : a = b ∧ ∃ x, conD a = some x := by
  unfold sameC at h
  split at h
  · exact ⟨rfl, _, rfl⟩
  · exact ⟨by rw [of_decide_eq_true h], _, rfl⟩
  · exact ⟨by rw [of_decide_eq_true h], _, rfl⟩
  · exact ⟨by rw [of_decide_eq_true h], _, rfl⟩
  · cases h
theorem mT_ok (g : Gd M X C W) : ∀ {is : List Nat} {es : List Expr}, mT M is es = true → PGs X es (gNames is) ∧ (assignEach es X.env).length = is.length ∧ (assignEach es X.env).findIdx? (·.1) = none
  | [], [], _ => ⟨pgs_nil, rfl, rfl⟩
  | i :: is, .Name x p :: es, h => by
    unfold mT at h
    simp only [Bool.and_eq_true, decide_eq_true_eq] at h
    obtain ⟨a, b, c⟩ := mT_ok g h.2
    obtain ⟨l1, l2⟩ := g.loc h.1.2
    have e : assignEach (.Name x p :: es) X.env = (false, assign (.Name x p) X.env) :: assignEach es X.env := rfl
    refine ⟨pgs_cons (pg_name g.nd (g.ix h.1.1) l1 l2) a, by rw [e, List.length_cons, b]; rfl, ?_⟩
    rw [e, List.findIdx?_cons]
    simp [c]
  | [], _ :: _, h => by unfold mT at h; cases h
  | _ :: _, [], h => by unfold mT at h; cases h
  | _ :: _, a :: es, h => by
    cases a <;> first | (unfold mT at h; cases h; done) | skip
    rename_i i is x p
    unfold mT at h
    simp only [Bool.and_eq_true, decide_eq_true_eq] at h
    obtain ⟨a, b, c⟩ := mT_ok g h.2
    obtain ⟨l1, l2⟩ := g.loc h.1.2
    have e : assignEach (.Name x p :: es) X.env = (false, assign (.Name x p) X.env) :: assignEach es X.env := rfl
    refine ⟨pgs_cons (pg_name g.nd (g.ix h.1.1) l1 l2) a, by rw [e, List.length_cons, b]; rfl, ?_⟩
    rw [e, List.findIdx?_cons]
    simp [c]
theorem mTg_ok (g : Gd M X C W) {t : T} {tg : Expr} (h : mTg M t tg = true) : PG X tg (gT X.K t) := by
  unfold mTg at h
  split at h
  · rename_i i x
    unfold mT at h
    split at h
    · rename_i h1 h2; cases h1
    · rename_i i' is y p es h1 h2
      cases h1
      cases h2
      simp only [Bool.and_eq_true, decide_eq_true_eq] at h
      obtain ⟨l1, l2⟩ := g.loc h.1.2
      exact pg_name g.nd (g.ix h.1.1) l1 l2
    · cases h
  · rename_i is es k p
    obtain ⟨a, b, c⟩ := mT_ok g h
    exact pg_tup g.calm a b c
  · cases h
theorem evs_len : ∀ (es : Es) (ρ : Env) (st st' : Sto) (vs : List Val), evs C es ρ st = .ok vs st' → vs.length = es.len
  | .nil, ρ, st, st', vs, h => by
    unfold evs at h
    cases h
    rfl
  | .cons e es, ρ, st, st', vs, h => by
    unfold evs bnd at h
    cases c : ev C e ρ st with
    | ok v st1 =>
      rw [c] at h
      simp only at h
      cases d : evs C es ρ st1 with
      | ok ws st2 =>
        rw [d] at h
        cases h
        rw [List.length_cons, evs_len es ρ st1 _ ws d]
        rfl
      | err x st2 => rw [d] at h; cases h
      | bad => rw [d] at h; cases h
    | err x st1 => rw [c] at h; cases h
    | bad => rw [c] at h; cases h
theorem mEs_len : ∀ {es : Es} {vs : List Expr}, mEs M es vs = true → es.len = vs.length
  | .nil, vs, h => by
    unfold mEs at h
    split at h
    · rfl
    · cases h
  | .cons e es, vs, h => by
    unfold mEs at h
    split at h
    · rw [Bool.and_eq_true] at h
      rw [List.length_cons, ← mEs_len h.2]
      rfl
    · cases h
theorem few_es {es : Es} {vs : List Expr} (h : mEs M es vs = true) (hl : vs.length ≤ 1000) : Few (fun ρ => evs C es ρ) := fun ρ st ws st' e => by
  rw [evs_len es ρ st st' ws e, mEs_len h]
  exact hl
/-- the built-in functions -/
theorem b1F_ok (g : Gd M X C W) {f : B1} {y : Str} (h : b1F f = some y) : ∃ id, bootBuiltins y = some (.builtin id) ∧ CallR X (.builtin id) (rB1 (gx X) f) := by
  have u := g.un
  cases f <;> first | cases h; done | skip
  · cases h; exact ⟨"len", PySem.boot_len, cr_len⟩
  · cases h; exact ⟨"all", boot_all, cr_allB g.calm⟩
  · cases h; exact ⟨"any", boot_any, cr_anyB g.calm⟩
  · cases h; exact ⟨"sum", boot_sum, cr_sumB g.calm⟩
  · cases h; exact ⟨"abs", boot_abs, cr_absB⟩
  · cases h; exact ⟨"sorted", boot_sorted, cr_sortedB g.calm (by omega)⟩
  · cases h; exact ⟨"max", boot_max, cr_maxB g.calm⟩
  · cases h; exact ⟨"min", boot_min, cr_minB g.calm⟩
theorem b1T_ok (g : Gd M X C W) {f : B1} {y : Str} (h : b1T f = some y) : ∃ T, bootBuiltins y = some (.type T) ∧ CallR X (.type T) (rB1 (gx X) f) := by
  have u := g.un
  cases f <;> first | cases h; done | skip
  · cases h; exact ⟨"int", boot_int, cr_intB⟩
  · cases h; exact ⟨"list", boot_list, cr_listB g.calm⟩
  · cases h; exact ⟨"tuple", boot_tuple, cr_tupleB⟩
  · cases h; exact ⟨"dict", boot_dict, cr_dictB g.calm (by omega)⟩
theorem b2F_ok (g : Gd M X C W) {f : B2} {y : Str} (h : b2F f = some y) : ∃ id, bootBuiltins y = some (.builtin id) ∧ CallR X (.builtin id) (rB2 f) := by
  cases f <;> first | cases h; done | skip
  · cases h; exact ⟨"min", boot_min, cr_b2min g.calm⟩
  · cases h; exact ⟨"max", boot_max, cr_b2max g.calm⟩
theorem tyC_ok (g : Gd M X C W) {t : Str} {c : Ty} (h : tyC M t c = true) : TyName X t c := by
  unfold tyC at h
  simp only [Bool.and_eq_true, decide_eq_true_eq] at h
  obtain ⟨a, b, d, e⟩ := g.blt h.1.1
  refine ⟨a, b, ?_, e, d⟩
  rw [h.1.2]
  cases c
  · exact absurd rfl h.2
  · exact boot_bool
  · exact boot_int
  · exact boot_str
  · exact boot_list
  · exact boot_tuple
  · exact boot_dict
end
end EV
end

section
set_option autoImplicit false
set_option linter.all false
set_option maxRecDepth 100000
set_option Elab.async false
set_option maxHeartbeats 4000000
/-! EvOk2: a term that tells a text is right about it. -/
namespace EV
open PySem PySem.Spec
open PyProof.Rows
open L2
theorem _root_.L2.PTs.imp {X : Cx} {e : List Expr} {t u : TT} (h : PTs X e t) (f : ∀ σ H Q, u σ H Q → t σ H Q) : PTs X e u := ⟨fun pins s σ H Q I q => h.run pins s σ H Q I (f σ H Q q)⟩
theorem if_id {α : Type} (m : M α) (f : α → M Bool) : (bnd m fun v => bnd (f v) fun k => if k then ret true else ret false) = bnd m f := by
  funext st
  unfold bnd
  cases m st with
  | ok a st' =>
    simp only
    cases f a st' with
    | ok k st2 => cases k <;> rfl
    | err e st2 => rfl
    | bad => rfl
  | err e st' => rfl
  | bad => rfl
section
variable {X : Cx} {C : Ctx} {W : WX}
theorem okV {x : Expr} {m : Env → M Val} (hv : isVal x = true) (h : PE X x (RdE (gx X) W m)) : PE X x (RdE (gx X) W m) ∧ PT X x (RdT (gx X) W fun ρ => bnd (m ρ) asBool) := ⟨h, t_val h (val_true hv)⟩
end
abbrev OkE (M : MC) (e : E) (x : Expr) : Prop := ∀ (X : Cx) (C : Ctx) (W : WX), Gd M X C W → PE X x (RdE (gx X) W fun ρ => ev C e ρ) ∧ PT X x (RdT (gx X) W fun ρ => bnd (ev C e ρ) asBool)
mutual
theorem okE : ∀ (e : E) (M : MC) (x : Expr), mE M e x = true → OkE M e x
  | .var i, M, x, h => by
    intro X C W g
    unfold mE at h
    split at h
    · simp only [Bool.and_eq_true, decide_eq_true_eq] at h
      obtain ⟨⟨h1, h2⟩, h3⟩ := h
      obtain ⟨n1, n2, n3⟩ := okN_ok h3
      exact okV rfl (e_var (g.ix h1) (g.vis h2) n1 n2)
    · cases h
  | .con c, M, x, h => by
    intro X C W g
    unfold mE at h
    split at h
    · obtain ⟨rfl, y, hy⟩ := sameC_ok h
      exact okV rfl (e_con hy)
    · cases h
  | .glb j, M, x, h => by
    intro X C W g
    unfold mE at h
    split at h
    · simp only [Bool.and_eq_true, decide_eq_true_eq] at h
      obtain ⟨⟨h1, h2⟩, h3⟩ := h
      obtain ⟨n1, n2, n3⟩ := okN_ok h3
      obtain ⟨d, hd, f⟩ := g.gs j _ h1
      exact okV rfl (e_glb hd (g.gl h2) f n1)
    · cases h
  | .fun_ j, M, x, h => by unfold mE at h; cases h
  | .tup es, M, x, h => by
    intro X C W g
    unfold mE at h
    split at h
    · simp only [Bool.and_eq_true, decide_eq_true_eq] at h
      obtain ⟨⟨h1, h2⟩, h3⟩ := h
      exact okV rfl (e_tup (okEs es M _ h3 h2 X C W g) (few_es h3 h1))
    · cases h
  | .lst m es, M, x, h => by
    intro X C W g
    unfold mE at h
    split at h
    · simp only [Bool.and_eq_true, decide_eq_true_eq] at h
      obtain ⟨⟨h1, h2⟩, h3⟩ := h
      exact okV rfl (e_lst (okEs es M _ h3 h2 X C W g) (few_es h3 h1))
    · cases h
  | .dct m es, M, x, h => by
    intro X C W g
    have u := g.un
    unfold mE at h
    split at h
    · rename_i ks vs p
      simp only [Bool.and_eq_true, decide_eq_true_eq] at h
      obtain ⟨⟨h1, h2⟩, h3⟩ := h
      obtain ⟨hp, ha⟩ := okPs es M _ _ h3 X C W g p
      cases ks with
      | nil =>
        cases vs with
        | nil =>
          cases es with
          | nil => exact okV rfl e_dct0
          | cons a b => unfold mPs at h3; cases h3
        | cons v vs => cases h1
      | cons k ks => exact okV rfl (e_dct (by omega) hp ha h1 (by simp) h2)
    · cases h
  | .dcv ks es, M, x, h => by
    intro X C W g
    unfold mE at h
    split at h
    · rename_i ls vs p
      simp only [Bool.and_eq_true, decide_eq_true_eq, Bool.not_eq_true', List.isEmpty_eq_false_iff] at h
      obtain ⟨⟨⟨⟨⟨h1, h2⟩, h3⟩, h4⟩, h5⟩, h6⟩ := h
      obtain ⟨hp, ha⟩ := okKs es M ks _ _ h6 X C W g p
      exact okV rfl (e_dcv hp ha h1 h5 h2 h4 h3)
    · cases h
  | .bin o a b, M, x, h => by
    intro X C W g
    unfold mE at h
    split at h
    · simp only [Bool.and_eq_true, decide_eq_true_eq] at h
      obtain ⟨⟨rfl, h2⟩, h3⟩ := h
      exact okV rfl (e_bin (okE a M _ h2 X C W g).1 (okE b M _ h3 X C W g).1)
    · cases h
  | .neg a, M, x, h => by
    intro X C W g
    unfold mE at h
    split at h
    · exact okV rfl (e_neg (okE a M _ h X C W g).1)
    · cases h
  | .cmp o a b, M, x, h => by
    intro X C W g
    have u := g.un
    unfold mE at h
    split at h
    · simp only [Bool.and_eq_true, decide_eq_true_eq, Bool.not_eq_true'] at h
      obtain ⟨⟨⟨rfl, h1⟩, h2⟩, h3⟩ := h
      exact ⟨e_cmp (by omega) (okE a M _ h2 X C W g).1 (okE b M _ h3 X C W g).1 h1, t_cmp (by omega) (okE a M _ h2 X C W g).1 (okE b M _ h3 X C W g).1 h1⟩
    · cases h
  | .chn o p a b c, M, x, h => by
    intro X C W g
    have u := g.un
    unfold mE at h
    split at h
    · simp only [Bool.and_eq_true, decide_eq_true_eq, Bool.not_eq_true'] at h
      obtain ⟨⟨⟨⟨⟨rfl, rfl⟩, h1⟩, h2⟩, h3⟩, h4⟩ := h
      exact ⟨e_chn (by omega) (okE a M _ h2 X C W g).1 (okE b M _ h3 X C W g).1 (okE c M _ h4 X C W g).1 h1, t_chn (by omega) (okE a M _ h2 X C W g).1 (okE b M _ h3 X C W g).1 (okE c M _ h4 X C W g).1 h1⟩
    · cases h
  | .chn3 _ _ _ _ _ _ _, M, x, h => by unfold mE at h; cases h
  | .not a, M, x, h => by
    intro X C W g
    unfold mE at h
    split at h
    · exact ⟨e_not (okE a M _ h X C W g).1, t_not (okE a M _ h X C W g).2⟩
    · cases h
  | .and es, M, x, h => by
    intro X C W g
    unfold mE at h
    split at h
    · rename_i vs p
      simp only [Bool.and_eq_true, Bool.not_eq_true', List.isEmpty_eq_false_iff] at h
      obtain ⟨a, b⟩ := okAnd es M _ h.2 X C W g p
      exact ⟨a h.1, t_bool b⟩
    · cases h
  | .or es, M, x, h => by
    intro X C W g
    unfold mE at h
    split at h
    · rename_i vs p
      simp only [Bool.and_eq_true, Bool.not_eq_true', List.isEmpty_eq_false_iff] at h
      obtain ⟨a, b⟩ := okOr es M _ h.2 X C W g p
      exact ⟨a h.1, t_bool b⟩
    · cases h
  | .ife c a b, M, x, h => by
    intro X C W g
    unfold mE at h
    split at h
    · simp only [Bool.and_eq_true] at h
      obtain ⟨⟨h1, h2⟩, h3⟩ := h
      exact ⟨e_ife (okE c M _ h1 X C W g).2 (okE a M _ h2 X C W g).1 (okE b M _ h3 X C W g).1, t_ife (okE c M _ h1 X C W g).2 (okE a M _ h2 X C W g).2 (okE b M _ h3 X C W g).2⟩
    · cases h
  | .idx a b, M, x, h => by
    intro X C W g
    have u := g.un
    unfold mE at h
    split at h
    · simp only [Bool.and_eq_true] at h
      obtain ⟨⟨h1, h2⟩, h3⟩ := h
      exact okV rfl (e_idx (by omega) (okE a M _ h2 X C W g).1 (okE b M _ h3 X C W g).1 (plain_ix h1))
    · cases h
  | .sli a lo hi, M, x, h => by
    intro X C W g
    unfold mE at h
    split at h
    · simp only [Bool.and_eq_true] at h
      obtain ⟨⟨h1, h2⟩, h3⟩ := h
      exact okV rfl (e_sli (okE a M _ h1 X C W g).1 (okO lo M _ h2 X C W g) (okO hi M _ h3 X C W g))
    · cases h
  | .rev a, M, x, h => by unfold mE at h; cases h
  | .call j es, M, x, h => by
    intro X C W g
    unfold mE at h
    split at h
    · rename_i y p vs q
      simp only [Bool.and_eq_true, decide_eq_true_eq] at h
      obtain ⟨⟨⟨⟨h1, h2⟩, h3⟩, h4⟩, h5⟩ := h
      obtain ⟨n1, n2, n3⟩ := okN_ok h3
      obtain ⟨f, hf, F⟩ := g.fs j _ h1
      have pa := okEs es M _ h5 h4 X C W g
      cases vs with
      | nil =>
        cases es with
        | nil => exact okV rfl (e_call0 hf F (g.gl h2) g.tk n1)
        | cons a b => unfold mEs at h5; cases h5
      | cons v vs =>
        rw [List.all_cons, Bool.and_eq_true] at h4
        exact okV rfl (e_call hf F (g.gl h2) g.tk pa n1 (star_cons h4.1) (star_any h4.2))
    · cases h
  | .cak _ _ _ _ _, M, x, h => by unfold mE at h; cases h
  | .b1 f m a, M, x, h => by
    intro X C W g
    have u := g.un
    unfold mE at h
    split at h
    · rename_i y p z pos
      split at h
      · rename_i o n apos cpos
        simp only [Bool.and_eq_true, decide_eq_true_eq] at h
        obtain ⟨⟨⟨⟨⟨rfl, h1⟩, rfl⟩, h2⟩, h3⟩, h4⟩ := h
        obtain ⟨b1, b2, b3, b4⟩ := g.blt h1
        exact okV rfl (e_listvals g.calm b1 b2 (okE a M _ h4 X C W g).1 (base_of h2) h3 rfl rfl)
      · rename_i o n apos cpos
        simp only [Bool.and_eq_true, decide_eq_true_eq] at h
        obtain ⟨⟨⟨⟨⟨rfl, h1⟩, rfl⟩, h2⟩, h3⟩, h4⟩ := h
        obtain ⟨b1, b2, b3, b4⟩ := g.blt h1
        exact okV rfl (e_sortedvals g.calm (by omega) b1 b2 (okE a M _ h4 X C W g).1 (base_of h2) h3 rfl rfl)
      · simp only [Bool.and_eq_true, decide_eq_true_eq] at h
        obtain ⟨⟨⟨⟨⟨rfl, rfl⟩, h1⟩, h2⟩, h3⟩, h4⟩ := h
        obtain ⟨b1, b2, _, _⟩ := g.blt h1
        obtain ⟨c1, c2, _, _⟩ := g.blt h2
        exact okV rfl (e_lenset g.calm b1 b2 c1 c2 (okE a M _ h4 X C W g).1 (star_cons h3))
      · simp only [Bool.and_eq_true, decide_eq_true_eq] at h
        obtain ⟨⟨⟨⟨⟨rfl, rfl⟩, h1⟩, h2⟩, h3⟩, h4⟩ := h
        obtain ⟨b1, b2, _, _⟩ := g.blt h1
        obtain ⟨c1, c2, _, _⟩ := g.blt h2
        exact okV rfl (e_sortset g.calm b1 b2 c1 c2 (okE a M _ h4 X C W g).1 (star_cons h3))
      · simp only [Bool.and_eq_true, Bool.or_eq_true, decide_eq_true_eq] at h
        obtain ⟨⟨⟨h0, h1⟩, h2⟩, h3⟩ := h
        obtain ⟨b1, b2, b3, b4⟩ := g.blt h1
        rcases h0 with h0 | h0
        · obtain ⟨id, e1, e2⟩ := b1F_ok g h0
          exact okV rfl (e_b1 e2 b1 b2 e1 (okE a M _ h3 X C W g).1 b4 b3 (star_cons h2) rfl)
        · obtain ⟨id, e1, e2⟩ := b1T_ok g h0
          exact okV rfl (e_b1t e2 b1 b2 e1 (okE a M _ h3 X C W g).1 b4 b3 (star_cons h2) rfl)
    · cases h
  | .b2 f a b, M, x, h => by
    intro X C W g
    unfold mE at h
    split at h
    · simp only [Bool.and_eq_true, Bool.or_eq_true, decide_eq_true_eq] at h
      obtain ⟨⟨⟨⟨h0, h1⟩, h2⟩, h3⟩, h4⟩ := h
      rcases h0 with ⟨h0, h5⟩ | ⟨⟨⟨⟨rfl, h5⟩, rfl⟩, h6⟩, h7⟩
      · obtain ⟨b1, b2, b3, b4⟩ := g.blt h5
        obtain ⟨id, e1, e2⟩ := b2F_ok g h0
        exact okV rfl (e_b2 e2 b1 b2 e1 (okE a M _ h3 X C W g).1 (okE b M _ h4 X C W g).1 b4 b3 (star_cons h1) (star_cons h2) (star_any (by simp [h2])))
      · obtain ⟨n1, n2, n3⟩ := okN_ok h7
        exact okV rfl (e_b2m cr_b2gcd (g.gl h6) (g.gcd h5) (okE a M _ h3 X C W g).1 (okE b M _ h4 X C W g).1 n1 (star_cons h1) (star_cons h2) (star_any (by simp [h2])))
    · cases h
  | .isi a ts, M, x, h => by
    intro X C W g
    unfold mE at h
    split at h
    · simp only [Bool.and_eq_true, decide_eq_true_eq] at h
      obtain ⟨⟨⟨⟨rfl, h1⟩, h2⟩, h3⟩, h4⟩ := h
      obtain ⟨b1, b2, b3, b4⟩ := g.blt h1
      unfold isiC at h4
      split at h4
      · exact okV rfl (e_isi1 b1 b2 boot_isinstance (okE a M _ h3 X C W g).1 (tyC_ok g h4) b4 b3 (star_cons h2) rfl rfl)
      · rw [Bool.and_eq_true] at h4
        exact okV rfl (e_isi2 b1 b2 boot_isinstance (okE a M _ h3 X C W g).1 (tyC_ok g h4.1) (tyC_ok g h4.2) b4 b3 rfl rfl (star_cons h2) rfl rfl)
      · cases h4
    · cases h
  | .fld _ _, M, x, h => by unfold mE at h; cases h
  | .mt f o es, M, x, h => by
    intro X C W g
    unfold mE at h
    split at h
    · rename_i o' n apos vs cpos
      simp only [Bool.and_eq_true, decide_eq_true_eq] at h
      obtain ⟨⟨⟨⟨⟨⟨h1, h2⟩, h3⟩, h4⟩, h5⟩, h6⟩, h7⟩ := h
      have po := (okE o M _ h5 X C W g).1
      have pa := okEs es M _ h6 h3 X C W g
      have one : ∀ {id : String} {n : Str}, Slot "list" n id → typeOf (.builtin id) = pure (.type "method_descriptor") → MtR X id (rMt (gx X) f) → vs.length = 1 → PE X (.Call (.Attribute o' n apos) vs [] cpos) (RdE (gx X) W fun ρ => ev C (.mt f o es) ρ) := by
        intro id n sl ty hm hl
        cases vs with
        | nil => cases hl
        | cons v vs =>
          have h3' := h3
          rw [List.all_cons, Bool.and_eq_true] at h3'
          exact e_mt PySem.F.plainAttrs_list sl ty hm po pa (base_of h1) (few_of h3 h4) h2 (star_cons h3'.1) (star_any h3'.2)
      unfold mtC at h7
      split at h7
      · simp only [Bool.and_eq_true, decide_eq_true_eq] at h7
        obtain ⟨rfl, hl⟩ := h7
        exact okV rfl (one PySem.F.slot_list_append PySem.F.type_list_append mt_appendR hl)
      · simp only [Bool.and_eq_true, decide_eq_true_eq] at h7
        obtain ⟨rfl, hl⟩ := h7
        exact okV rfl (one PySem.F.slot_list_extend PySem.F.type_list_extend mt_extendR hl)
      · simp only [Bool.and_eq_true, decide_eq_true_eq] at h7
        obtain ⟨rfl, hl⟩ := h7
        cases vs with
        | cons v vs => cases hl
        | nil =>
          cases es with
          | nil => exact okV rfl (e_mt0 PySem.F.plainAttrs_list PySem.F.slot_list_pop PySem.F.type_list_pop mt_popR po (base_of h1) h2)
          | cons a b => unfold mEs at h6; cases h6
      · simp only [Bool.and_eq_true, decide_eq_true_eq] at h7
        obtain ⟨rfl, hl⟩ := h7
        exact okV rfl (one PySem.F.slot_list_pop PySem.F.type_list_pop mt_popAtR hl)
      · cases h7
    · cases h
  | .itl f m it, M, x, h => by
    intro X C W g
    unfold mE at h
    split at h
    · split at h
      · simp only [Bool.and_eq_true, decide_eq_true_eq] at h
        obtain ⟨⟨⟨⟨⟨rfl, rfl⟩, h1⟩, h2⟩, h3⟩, h4⟩ := h
        rename_i a y p r q a' cp pos
        obtain ⟨b1, b2, _, _⟩ := g.blt h1
        obtain ⟨c1, c2, _, _⟩ := g.blt h2
        exact okV rfl (e_lrg g.calm b1 b2 c1 c2 (okE _ M _ h4 X C W g).1 (star_cons h3) rfl)
      · cases h
    · cases h
  | .lc1 m elt t it c own, M, x, h => by
    intro X C W g
    unfold mE at h
    split at h
    · rename_i elt' tg iter ifs scope p
      simp only [Bool.and_eq_true, decide_eq_true_eq] at h
      obtain ⟨⟨⟨⟨⟨⟨⟨h1, h2⟩, h3⟩, h4⟩, h5⟩, h6⟩, h7⟩, h8⟩ := h
      have ow : (ownP M own).map (·.2) = own := by unfold ownP; rw [List.map_map]; exact List.map_id' own
      have bo : BlkOk X.N X.env.scope scope (ownP M own) := by rw [g.N, g.sc]; exact blkOk_by h1
      have r := e_lc1 (m := m) (pos := p) g.calm g.nd bo (by rw [ow]; exact h2) (okI it M tg iter h4 X C W g) (fun s H D cl fp => mTg_ok (g.blk scope s H D cl fp) h5) (fun s H D cl fp => okIf c _ _ h7 h6 _ C NoW (g.blk scope s H D cl fp))
        (fun s H D cl fp => (okE elt _ _ h8 _ C NoW (g.blk scope s H D cl fp)).1) (fold_of h3)
      rw [ow] at r
      exact okV rfl r
    · cases h
  | .lc2 m elt t it c t1 it1 c1 own own1, M, x, h => by
    intro X C W g
    unfold mE at h
    split at h
    · rename_i elt' tg iter ifs tg1 iter1 ifs1 scope p
      simp only [Bool.and_eq_true, decide_eq_true_eq] at h
      obtain ⟨⟨⟨⟨⟨⟨⟨⟨⟨⟨⟨⟨⟨⟨h1, h2⟩, h3⟩, h4⟩, h5⟩, h6⟩, h7⟩, h8⟩, h9⟩, h10⟩, h11⟩, h12⟩, h13⟩, h14⟩, h15⟩ := h
      have ow : (ownP M own).map (·.2) = own := by unfold ownP; rw [List.map_map]; exact List.map_id' own
      have bo : BlkOk X.N X.env.scope scope (ownP M own) := by rw [g.N, g.sc]; exact blkOk_by h1
      have r := e_lc2 (m := m) (pos := p) g.calm g.nd bo (by rw [ow]; exact h2) (by rw [ow]; exact h3) h4 (okI it M tg iter h7 X C W g) (fun s H D cl fp => mTg_ok (g.blk scope s H D cl fp) h8) (fun s H D cl fp => okIf c _ _ h10 h9 _ C NoW (g.blk scope s H D cl fp))
        (fun s H D cl fp => okI it1 _ tg1 iter1 h11 _ C NoW (g.blk scope s H D cl fp)) (fun s H D cl fp => mTg_ok (g.blk scope s H D cl fp) h12) (fun s H D cl fp => okIf c1 _ _ h14 h13 _ C NoW (g.blk scope s H D cl fp))
        (fun s H D cl fp => (okE elt _ _ h15 _ C NoW (g.blk scope s H D cl fp)).1) (fold_of h5) (fun env => fold_of h6)
      rw [ow] at r
      exact okV rfl r
    · cases h
  | .dc1 m k v t it c own, M, x, h => by
    intro X C W g
    unfold mE at h
    split at h
    · rename_i k' v' tg iter ifs scope p
      simp only [Bool.and_eq_true, decide_eq_true_eq] at h
      obtain ⟨⟨⟨⟨⟨⟨⟨⟨h1, h2⟩, h3⟩, h4⟩, h5⟩, h6⟩, h7⟩, h8⟩, h9⟩ := h
      have ow : (ownP M own).map (·.2) = own := by unfold ownP; rw [List.map_map]; exact List.map_id' own
      have bo : BlkOk X.N X.env.scope scope (ownP M own) := by rw [g.N, g.sc]; exact blkOk_by h1
      have r := e_dc1 (m := m) (pos := p) g.calm g.nd bo (by rw [ow]; exact h2) (okI it M tg iter h4 X C W g) (fun s H D cl fp => mTg_ok (g.blk scope s H D cl fp) h5) (fun s H D cl fp => okIf c _ _ h7 h6 _ C NoW (g.blk scope s H D cl fp))
        (fun s H D cl fp => (okE k _ _ h8 _ C NoW (g.blk scope s H D cl fp)).1) (fun s H D cl fp => (okE v _ _ h9 _ C NoW (g.blk scope s H D cl fp)).1) (fold_of h3)
      rw [ow] at r
      exact okV rfl r
    · cases h
  | .frz a, M, x, h => by
    intro X C W g
    unfold mE at h
    rw [Bool.and_eq_true] at h
    exact okV h.1 (e_frz (okE a M _ h.2 X C W g).1)
theorem okO : ∀ (o : Eo) (M : MC) (x : Option Expr), mO M o x = true → ∀ (X : Cx) (C : Ctx) (W : WX), Gd M X C W → PO X x (RdO (gx X) W fun ρ => evo C o ρ)
  | .none, M, x, h => by
    intro X C W g
    unfold mO at h
    split at h
    · exact o_none
    · cases h
  | .some e, M, x, h => by
    intro X C W g
    unfold mO at h
    split at h
    · exact o_some (okE e M _ h X C W g).1
    · cases h
theorem okEs : ∀ (es : Es) (M : MC) (xs : List Expr), mEs M es xs = true → xs.all plainE = true → ∀ (X : Cx) (C : Ctx) (W : WX), Gd M X C W → PA X xs (RdA (gx X) W fun ρ => evs C es ρ)
  | .nil, M, xs, h, hp => by
    intro X C W g
    unfold mEs at h
    split at h
    · exact a_nil
    · cases h
  | .cons e es, M, xs, h, hp => by
    intro X C W g
    unfold mEs at h
    split at h
    · rw [Bool.and_eq_true] at h
      rw [List.all_cons, Bool.and_eq_true] at hp
      exact a_cons (okE e M _ h.1 X C W g).1 (okEs es M _ h.2 hp.2 X C W g) (star_cons hp.1)
    · cases h
theorem okAnd : ∀ (es : Es) (M : MC) (xs : List Expr), mEs M es xs = true → ∀ (X : Cx) (C : Ctx) (W : WX), Gd M X C W → ∀ pos : Pos,
    (xs ≠ [] → PE X (.BoolOp .And xs pos) (RdE (gx X) W fun ρ => bnd (evc C es ρ) fun k => ret (bv k))) ∧ PW X (.BoolOp .And xs pos) (RdT (gx X) W fun ρ => evc C es ρ)
  | .nil, M, xs, h => by
    intro X C W g pos
    unfold mEs at h
    split at h
    · exact ⟨fun z => absurd rfl z, w_and0⟩
    · cases h
  | .cons e es, M, xs, h => by
    intro X C W g pos
    unfold mEs at h
    split at h
    · rename_i y ys
      rw [Bool.and_eq_true] at h
      obtain ⟨a, b⟩ := okE e M _ h.1 X C W g
      obtain ⟨c, d⟩ := okAnd es M _ h.2 X C W g pos
      refine ⟨fun _ => ?_, w_and b d⟩
      cases ys with
      | nil =>
        cases es with
        | nil => exact e_and1 a
        | cons e2 es2 => have h2 := h.2; unfold mEs at h2; cases h2
      | cons z zs => exact e_and a (c (by simp))
    · cases h
theorem okOr : ∀ (es : Es) (M : MC) (xs : List Expr), mEs M es xs = true → ∀ (X : Cx) (C : Ctx) (W : WX), Gd M X C W → ∀ pos : Pos,
    (xs ≠ [] → PE X (.BoolOp .Or xs pos) (RdE (gx X) W fun ρ => bnd (evd C es ρ) fun k => ret (bv k))) ∧ PW X (.BoolOp .Or xs pos) (RdT (gx X) W fun ρ => evd C es ρ)
  | .nil, M, xs, h => by
    intro X C W g pos
    unfold mEs at h
    split at h
    · exact ⟨fun z => absurd rfl z, w_or0⟩
    · cases h
  | .cons e es, M, xs, h => by
    intro X C W g pos
    unfold mEs at h
    split at h
    · rename_i y ys
      rw [Bool.and_eq_true] at h
      obtain ⟨a, b⟩ := okE e M _ h.1 X C W g
      obtain ⟨c, d⟩ := okOr es M _ h.2 X C W g pos
      refine ⟨fun _ => ?_, w_or b d⟩
      cases ys with
      | nil =>
        cases es with
        | nil => simp only [evd]; exact e_or1 a
        | cons e2 es2 => have h2 := h.2; unfold mEs at h2; cases h2
      | cons z zs => exact e_or a (c (by simp))
    · cases h
theorem okIf : ∀ (es : Es) (M : MC) (xs : List Expr), mEs M es xs = true → xs.length ≤ 1 → ∀ (X : Cx) (C : Ctx) (W : WX), Gd M X C W → PTs X xs (RdT (gx X) W fun ρ => evc C es ρ)
  | .nil, M, xs, h, hl => by
    intro X C W g
    unfold mEs at h
    split at h
    · exact pts_nil.imp fun σ H Q q => by
        obtain ⟨ρ, st, μ, en, sr, p⟩ := q
        exact Post.ok (a := true) sr p
    · cases h
  | .cons e es, M, xs, h, hl => by
    intro X C W g
    unfold mEs at h
    split at h
    · rename_i y ys
      rw [Bool.and_eq_true] at h
      cases ys with
      | cons z zs => rw [List.length_cons, List.length_cons] at hl; omega
      | nil =>
        cases es with
        | cons e2 es2 => have h2 := h.2; unfold mEs at h2; cases h2
        | nil =>
          have q := (okE e M _ h.1 X C W g).2
          have e1 : (fun ρ => evc C (.cons e .nil) ρ) = fun ρ => bnd (ev C e ρ) asBool := by
            funext ρ
            simp only [evc]
            exact if_id _ _
          rw [e1]
          exact pts_one q
    · cases h
theorem okPs : ∀ (es : Es) (M : MC) (ks : List (Option Expr)) (vs : List Expr), mPs M es ks vs = true → ∀ (X : Cx) (C : Ctx) (W : WX), Gd M X C W → ∀ pos : Pos, PPr X W pos ks vs (fun ρ => evs C es ρ) ∧ ks.all (·.isSome) = true
  | .nil, M, ks, vs, h => by
    intro X C W g pos
    unfold mPs at h
    split at h
    · exact ⟨ppr_nil, rfl⟩
    · cases h
  | .cons k .nil, M, ks, vs, h => by
    intro X C W g pos
    unfold mPs at h
    split at h <;> cases h
  | .cons k (.cons v r), M, ks, vs, h => by
    intro X C W g pos
    unfold mPs at h
    split at h
    · simp only at h
      split at h
      · simp only [Bool.and_eq_true] at h
        obtain ⟨a, b⟩ := okPs r M _ _ h.2 X C W g pos
        exact ⟨ppr_cons (okE k M _ h.1.1 X C W g).1 (okE v M _ h.1.2 X C W g).1 a, by rw [List.all_cons, b]; rfl⟩
      · cases h
    · cases h
theorem okKs : ∀ (es : Es) (M : MC) (ns : List Str) (ks : List (Option Expr)) (vs : List Expr), mKs M ns es ks vs = true → ∀ (X : Cx) (C : Ctx) (W : WX), Gd M X C W → ∀ pos : Pos, PPk X W pos ks vs ns (fun ρ => evs C es ρ) ∧ ks.all (·.isSome) = true
  | .nil, M, ns, ks, vs, h => by
    intro X C W g pos
    unfold mKs at h
    split at h
    · exact ⟨ppk_nil, rfl⟩
    · cases h
  | .cons v r, M, ns, ks, vs, h => by
    intro X C W g pos
    unfold mKs at h
    split at h
    · simp only [Bool.and_eq_true, decide_eq_true_eq] at h
      obtain ⟨⟨rfl, h1⟩, h2⟩ := h
      obtain ⟨a, b⟩ := okKs r M _ _ _ h2 X C W g pos
      exact ⟨ppk_cons (okE v M _ h1 X C W g).1 a, by rw [List.all_cons, b]; rfl⟩
    · cases h
theorem okI : ∀ (it : Ir) (M : MC) (tg x : Expr), mI M it tg x = true → ∀ (X : Cx) (C : Ctx) (W : WX), Gd M X C W → PI X tg x (RdI (gx X) W fun ρ => evi C it ρ)
  | .val e, M, tg, x, h => by
    intro X C W g
    unfold mI at h
    exact pi_val (okE e M _ h X C W g).1
  | .rg1 a, M, tg, x, h => by
    intro X C W g
    unfold mI at h
    split at h
    · simp only [Bool.and_eq_true, decide_eq_true_eq] at h
      obtain ⟨⟨⟨rfl, h1⟩, h2⟩, h3⟩ := h
      obtain ⟨b1, b2, _, _⟩ := g.blt h1
      exact i_rg1 b1 b2 (okE a M _ h3 X C W g).1 (star_cons h2) (star_one h2)
    · cases h
  | .rg2 a b, M, tg, x, h => by
    intro X C W g
    unfold mI at h
    split at h
    · simp only [Bool.and_eq_true, decide_eq_true_eq] at h
      obtain ⟨⟨⟨⟨⟨rfl, h1⟩, h2⟩, h3⟩, h4⟩, h5⟩ := h
      obtain ⟨b1, b2, _, _⟩ := g.blt h1
      exact i_rg2 b1 b2 (okE a M _ h4 X C W g).1 (okE b M _ h5 X C W g).1 (star_cons h2) (star_cons h3) (by rw [star_cons h2, star_one h3]) (star_one h3)
    · cases h
  | .zip a b, M, tg, x, h => by
    intro X C W g
    unfold mI at h
    split at h
    · split at h
      · simp only [Bool.and_eq_true, decide_eq_true_eq] at h
        obtain ⟨⟨⟨⟨⟨rfl, h1⟩, h2⟩, h3⟩, h4⟩, h5⟩ := h
        obtain ⟨b1, b2, _, _⟩ := g.blt h1
        exact i_zip b1 b2 (okE a M _ h4 X C W g).1 (okE b M _ h5 X C W g).1 (star_cons h2) (star_cons h3) (star_any (by simp [h3]))
      · cases h
    · cases h
  | .enm _, M, tg, x, h => by unfold mI at h; cases h
  | .rvs _, M, tg, x, h => by unfold mI at h; cases h
end
end EV
end

section
set_option autoImplicit false
set_option linter.all false
set_option maxRecDepth 100000
set_option Elab.async false
/-! EvT: name = [..] on one line. -/
namespace EV
open PySem PySem.Spec
open PyProof.Rows
open L2
/-- what is wanted behind a statement, at once or once an object rests -/
def nxR (Q : L2.St → Hp → Prop) : L2.St → Hp → Prop := fun σ H => Q σ H ∨ ∃ p o, H p = some o ∧ Mut (some o) ∧ ∀ ob, Q σ (upd H p (.frz ob o))
section
variable {X : Cx} {W : WX}
theorem SP.restS {pins : List (Addr × Obj)} {D : Ends} {f : PySem.Flow} {s : Shared} (h : SP X pins { D with nx := nxR D.nx } f s) : SP X pins D f s := by
  cases f with
  | next =>
    obtain ⟨σ, H, I, q⟩ := h
    rcases q with q | ⟨p, o, e, mu, q⟩
    · exact ⟨σ, H, I, q⟩
    · obtain ⟨ob, J⟩ := I.lock e mu
      exact ⟨σ, _, J, q ob⟩
  | brk => exact h
  | cont => exact h
  | ret u => exact h
theorem _root_.L2.PS.restS {st : Stmt} {t : TS} (h : PS X st t) : PS X st (fun D σ H => t { D with nx := nxR D.nx } σ H) := ⟨fun pins s σ H D I q => thn (h.run pins s σ H _ I q) fun _ _ e => SP.restS e⟩
theorem tLc_mono {mi : Env → M (List Val × List Nat)} {g : TG} {tt : TT} {te : TE} {vs : List Nat} {σ : L2.St} {H : Hp} {Q Q' : VK} (f : ∀ v H, Q v H → Q' v H) (h : tLc (RdI (gx X) W mi) g tt te vs σ H Q) : tLc (RdI (gx X) W mi) g tt te vs σ H Q' := by
  obtain ⟨ρ, st, μ, en, sr, p⟩ := h
  refine ⟨ρ, st, μ, en, sr, p.imp fun q μ1 st1 H1 s1 sr1 r J ok D hD => ?_⟩
  obtain ⟨w, w0, turn⟩ := r J ok D hD
  exact ⟨w, w0, fun i m H hw => (turn i m H hw).imp (fun z => ⟨z.1, f _ _ z.2⟩) id⟩
theorem tLc2_mono {mi : Env → M (List Val × List Nat)} {wi1 : TI} {g g1 : TG} {tt tt1 : TT} {te : TE} {vs vs1 : List Nat} {σ : L2.St} {H : Hp} {Q Q' : VK} (f : ∀ v H, Q v H → Q' v H) (h : tLc2 (RdI (gx X) W mi) g tt wi1 g1 tt1 te vs vs1 σ H Q) :
    tLc2 (RdI (gx X) W mi) g tt wi1 g1 tt1 te vs vs1 σ H Q' := by
  obtain ⟨ρ, st, μ, en, sr, p⟩ := h
  refine ⟨ρ, st, μ, en, sr, p.imp fun q μ1 st1 H1 s1 sr1 r J ok D hD => ?_⟩
  obtain ⟨w, w0, turn⟩ := r J ok D hD
  exact ⟨w, w0, fun i m H hw => (turn i m H hw).imp (fun z => ⟨z.1, f _ _ z.2⟩) id⟩
theorem asg_rd {m : Env → M Val} {i : Nat} {D : Ends} {σ : L2.St} {H : Hp} (h : RdS (gx X) W (fun ρ => bnd (m ρ) fun v => bnd (bind1 (.nm i) v ρ) fun ρ' => ret (.nx, ρ')) D σ H) : RdE (gx X) W m σ H fun x H1 => D.nx (σ.set i (some x)) H1 :=
  rds1 h fun ρ v μ st H1 x en sr rx p => by
    have p' : Post (gx X) (fun c d H' => ∀ σ', W c d σ' H') μ st H1 (EV.ret (Flow.nx, ρ.set i (some v)) st) fun q μ' st' H' => FlowK (gx X) D q μ' st' H' := p
    exact (Post.ok sr p' : ∀ σ', EnvOk (gx X) μ st H1 (ρ.set i (some v)) σ' → D.nx σ' H1) _ (en.set rx i)
theorem rest_nx {Q : L2.St → Hp → Prop} {σ : L2.St} {i : Nat} (v : V) (H : Hp) (h : restR (fun x H1 => Q (σ.set i (some x)) H1) v H) : gName i v σ H (nxR Q) := by
  rcases h with h | ⟨a, o, e, ha, mu, q⟩
  · exact .inl h
  · exact .inr ⟨a, o, ha, mu, q⟩
theorem s_setLc1 {i : Nat} {y : Str} {py : Pos} {elt tg iter : Expr} {ifs : List Expr} {scope : Scope} {own : List (Str × Nat)} {pos spos : Pos} {t : T} {m : Nat} {mi : Env → M (List Val × List Nat)} {mc : Env → M Bool} {me : Env → M Val} (hc : X.calm = true) (hN : X.N.Nodup) (hy : X.N[i]? = some y) (hyl : X.env.scope.names.lookup y = some .local)
    (hsw : swapsWith (.ListComp elt [⟨tg, iter, ifs, 0⟩] scope pos) (some (.Name y py)) spos.line X.env = pure true) (ok : BlkOk X.N X.env.scope scope own)
    (ht : ∀ i ∈ t.slots, i ∈ own.map (·.2)) (hi : PI X tg iter (RdI (gx X) W mi)) (hg : ∀ s H C cl fp, PG (Blk X scope s H C cl fp) tg (gT X.K t)) (hq : ∀ s H C cl fp, PTs (Blk X scope s H C cl fp) ifs (RdT (gx X) NoW mc))
    (he : ∀ s H C cl fp, PE (Blk X scope s H C cl fp) elt (RdE (gx X) NoW me)) (hs : ∀ x, foldedSetIterable iter X.env x = pure x) :
    PS X (.Assign [.Name y py] (.ListComp elt [⟨tg, iter, ifs, 0⟩] scope pos) spos) (RdS (gx X) W fun ρ => bnd ((fun ρ => bnd (mi ρ) fun q => fun st => bnd (shut (lcL q.2 st (turnF t (own.map (·.2)) mc (fun ρ' => bnd (me ρ') fun v => bnd (pureD v) fun y => ret [y]) ρ) q.1)) (fun ys => fresh m (.list ys)) st) ρ) fun v => bnd (bind1 (.nm i) v ρ) fun ρ' => ret (.nx, ρ')) :=
  (ps_setLc hc hN hy hyl hsw hi ok hg hq he hs).restS.imp fun D σ H h => tLc_mono rest_nx (lc_rd ht (asg_rd h))
theorem s_setLc2 {i : Nat} {y : Str} {py : Pos} {elt tg iter tg1 iter1 : Expr} {ifs ifs1 : List Expr} {scope : Scope} {own : List (Str × Nat)} {own1 : List Nat} {pos spos : Pos} {t t1 : T} {m : Nat} {mi mi1 : Env → M (List Val × List Nat)} {mc mc1 : Env → M Bool} {me : Env → M Val} (hc : X.calm = true) (hN : X.N.Nodup) (hy : X.N[i]? = some y) (hyl : X.env.scope.names.lookup y = some .local)
    (hsw : swapsWith (.ListComp elt [⟨tg, iter, ifs, 0⟩, ⟨tg1, iter1, ifs1, 0⟩] scope pos) (some (.Name y py)) spos.line X.env = pure true) (ok : BlkOk X.N X.env.scope scope own)
    (hv : ∀ i ∈ own1, i ∈ own.map (·.2)) (ht : ∀ i ∈ t.slots, i ∈ own.map (·.2)) (ht1 : ∀ i ∈ t1.slots, i ∈ own1) (hi : PI X tg iter (RdI (gx X) W mi)) (hg : ∀ s H C cl fp, PG (Blk X scope s H C cl fp) tg (gT X.K t)) (hq : ∀ s H C cl fp, PTs (Blk X scope s H C cl fp) ifs (RdT (gx X) NoW mc))
    (hi1 : ∀ s H C cl fp, PI (Blk X scope s H C cl fp) tg1 iter1 (RdI (gx X) NoW mi1)) (hg1 : ∀ s H C cl fp, PG (Blk X scope s H C cl fp) tg1 (gT X.K t1)) (hq1 : ∀ s H C cl fp, PTs (Blk X scope s H C cl fp) ifs1 (RdT (gx X) NoW mc1))
    (he : ∀ s H C cl fp, PE (Blk X scope s H C cl fp) elt (RdE (gx X) NoW me)) (hs : ∀ x, foldedSetIterable iter X.env x = pure x) (hs1 : ∀ env x, foldedSetIterable iter1 env x = pure x) :
    PS X (.Assign [.Name y py] (.ListComp elt [⟨tg, iter, ifs, 0⟩, ⟨tg1, iter1, ifs1, 0⟩] scope pos) spos) (RdS (gx X) W fun ρ => bnd ((fun ρ => bnd (mi ρ) fun q => fun st => bnd (shut (lcL q.2 st (turnF t (own.map (·.2)) mc (fun ρ => bnd (mi1 ρ) fun q1 => fun st1 => if fits (q.1.length * q1.1.length) = false then .bad else
      lcL q1.2 st1 (turnF t1 own1 mc1 (fun ρ => bnd (me ρ) fun v => bnd (pureD v) fun y => ret [y]) ρ) q1.1 st1) ρ) q.1)) (fun ys => fresh m (.list ys)) st) ρ) fun v => bnd (bind1 (.nm i) v ρ) fun ρ' => ret (.nx, ρ')) :=
  (ps_setLc2 hc hN hy hyl hsw hi ok hv hg hq hi1 hg1 hq1 he hs hs1).restS.imp fun D σ H h => tLc2_mono rest_nx (lc2_rd ht ht1 (asg_rd h))
end
theorem sp_three {env : PySem.Env} {x y z : Str} {a b c : Expr} {px py pz pt pt2 : Pos} {kt k2 : Nat} (hk : env.scope.kind = .function) (hx : env.scope.names.lookup x = some .local) (hy : env.scope.names.lookup y = some .local) (hz : env.scope.names.lookup z = some .local) (hxy : x ≠ y) (hxz : x ≠ z) (hyz : y ≠ z)
    (hl : (py.line == px.line) = true) (hl2 : (pz.line == px.line) = true) (hf : ([a, b, c].all (foldedForSure 8)) = false) (hf2 : (constantsAlone 8 a && constantsAlone 8 b && constantsAlone 8 c) = false) (ha : plainE a = true) (hb : plainE b = true) (hc : plainE c = true) :
    swappedStores [.Tuple [.Name x px, .Name y py, .Name z pz] kt pt] (.Tuple [a, b, c] k2 pt2) env = pure (some [x, y, z]) := by
  have hbk : env.blockKind = .function := by unfold Env.blockKind; rw [hk]; rfl
  have kx : env.kindOf x = some .local := hx
  have ky : env.kindOf y = some .local := hy
  have kz : env.kindOf z = some .local := hz
  have n1 : (x == y) = false := by simpa using hxy
  have n2 : (y == x) = false := by simpa using fun e => hxy e.symm
  have n3 : (x == z) = false := by simpa using hxz
  have n4 : (z == x) = false := by simpa using fun e => hxz e.symm
  have n5 : (y == z) = false := by simpa using hyz
  have n6 : (z == y) = false := by simpa using fun e => hyz e.symm
  have h2 : ¬ (constantsAlone 8 a = true ∧ constantsAlone 8 b = true ∧ constantsAlone 8 c = true) := by
    rw [← Bool.and_eq_true, ← Bool.and_eq_true, ← Bool.and_assoc, hf2]
    exact Bool.false_ne_true
  unfold swappedStores
  simp only [hbk, hf, List.filterMap_cons, List.filterMap_nil, kx, ky, kz, List.head?_cons, Option.map_some, Option.getD_some, Expr.pos, hl, hl2, beq_self_eq_true, Bool.and_self, List.length_cons, List.length_nil]
  simp [List.eraseDups_cons, n1, n2, n3, n4, n5, n6, kx, ky, kz, hl, hl2, hf, h2]
  intro h
  rcases h with h | h | h
  · cases a <;> first | exact Bool.noConfusion ha | cases h
  · cases b <;> first | exact Bool.noConfusion hb | cases h
  · cases c <;> first | exact Bool.noConfusion hc | cases h
end EV
end

section
set_option autoImplicit false
set_option linter.all false
set_option maxRecDepth 100000
set_option Elab.async false
set_option maxHeartbeats 4000000
/-! EvOk3: statements. -/
namespace EV
open PySem PySem.Spec
open PyProof.Rows
open L2
def funC (sc : Scope) : Bool := match sc.kind with
  | .function => true
  | _ => false
def lclC (sc : Scope) (x : Str) : Bool := match sc.names.lookup x with
  | some .local => true
  | _ => false
/-- name = [..] with the name kept meanwhile -/
def swC (M : MC) (y : Str) (py pos : Pos) (scope : Scope) : Bool := funC M.sc && lclC M.sc y && (py.line == pos.line) && !(scope.names.any fun (n, k) => n == y && (k == .local || k == .cell))
def mPar (M : MC) (is : List Nat) (es : Es) (ts vs : List Expr) : Bool := match is, ts, vs with
  | [i, j], [.Name x px, .Name y py], [a, b] => decide (M.N[i]? = some x) && decide (M.N[j]? = some y) && decide (i ≠ j) && decide (x ≠ y) && lclC M.sc x && lclC M.sc y && (py.line == px.line) && !([a, b].all (foldedForSure 8)) && !(constantsAlone 8 a && constantsAlone 8 b) && plainE a && plainE b && mEs M es [a, b]
  | [i, j, l], [.Name x px, .Name y py, .Name z pz], [a, b, c] => decide (M.N[i]? = some x) && decide (M.N[j]? = some y) && decide (M.N[l]? = some z) && decide (i ≠ j) && decide (i ≠ l) && decide (j ≠ l) && decide (x ≠ y) && decide (x ≠ z) && decide (y ≠ z) && lclC M.sc x && lclC M.sc y && lclC M.sc z && (py.line == px.line) && (pz.line == px.line) &&
    !([a, b, c].all (foldedForSure 8)) && !(constantsAlone 8 a && constantsAlone 8 b && constantsAlone 8 c) && plainE a && plainE b && plainE c && mEs M es [a, b, c]
  | _, _, _ => false
def mSet (M : MC) (i : Nat) (e : E) (tg v : Expr) : Bool := match e, tg, v with
  | .lc1 _ _ _ _ _ _, .Name y py, .ListComp _ [⟨_, _, _, 0⟩] scope pos => decide (M.N[i]? = some y) && swC M y py pos scope && mE M e v
  | .lc2 _ _ _ _ _ _ _ _ _ _, .Name y py, .ListComp _ [⟨_, _, _, 0⟩, ⟨_, _, _, 0⟩] scope pos => decide (M.N[i]? = some y) && swC M y py pos scope && mE M e v
  | _, _, _ => false
def celC (sc : Scope) (x : Str) : Bool := match sc.names.lookup x with
  | some .cell => true
  | _ => false
/-- one of the names is a cell's: stored as they come -/
def celT (M : MC) (tg v : Expr) : Bool := match tg, v with
  | .Tuple [.Name x _, .Name y _] _ _, .Tuple [_, _] _ _ => celC M.sc x || celC M.sc y
  | _, _ => false
def swN (M : MC) (tg v : Expr) : Bool := noComp v || (match tg, v with
  | .Name y _, .ListComp .. => celC M.sc y
  | .Name y _, .DictComp .. => celC M.sc y
  | _, _ => false)
mutual
def mS (M : MC) : S → Stmt → Bool
  | .asg t e, x => (match x with | .Assign [tg] v _ => (swN M tg v && mTg M t tg && mE M e v && plainE tg && (noTup tg || noTup v || celT M tg v)) || (match t with | .nm i => mSet M i e tg v | _ => false) | _ => false)
  | .par is es, x => (match x with | .Assign [.Tuple ts _ _] (.Tuple vs _ _) _ => funC M.sc && mPar M is es ts vs | _ => false)
  | .sub o i e, x => (match x with | .Assign [.Subscript o' i' _] v _ => noComp v && mE M e v && mE M o o' && mE M i i' && plainE i' | _ => false)
  | .exp e, x => (match x with | .Expr v _ => noComp v && mE M e v | _ => false)
  | .ife c a b, x => (match x with | .If c' ys ns _ => mE M c c' && mSs M a ys && mSs M b ns | _ => false)
  | .for_ t it b, x => (match x with | .For tg iter body [] _ => mTg M t tg && mI M it tg iter && plainE iter && mSs M b body | _ => false)
  | .whl c b, x => (match x with | .While c' body [] _ => mE M c c' && mSs M b body | _ => false)
  | .ret e, x => (match x with | .Return (some v) _ => mE M e v | .Return none _ => (match e with | .con .none => true | _ => false) | _ => false)
  | .pas, x => (match x with | .Pass _ => true | _ => false)
  | .brk, x => (match x with | .Break _ => true | _ => false)
  | .nev, _ => true
  | _, _ => false
def mSs (M : MC) : Ss → List Stmt → Bool
  | .nil, x => (match x with | [] => true | _ => false)
  | .cons s ss, x => (match s with | .nev => true | _ => (match x with | y :: ys => mS M s y && mSs M ss ys | _ => false))
end
theorem lclC_ok {sc : Scope} {x : Str} (h : lclC sc x = true) : sc.names.lookup x = some .local := by
  unfold lclC at h
  split at h
  · assumption
  · cases h
theorem funC_ok {sc : Scope} (h : funC sc = true) : sc.kind = .function := by
  unfold funC at h
  split at h
  · assumption
  · cases h
section
variable {M : MC} {X : Cx} {C : Ctx} {W : WX}
theorem Gd.lcl (g : Gd M X C W) {x : Str} (h : lclC M.sc x = true) : X.env.scope.names.lookup x = some .local := by rw [g.sc]; exact lclC_ok h
theorem Gd.fun_ (g : Gd M X C W) (h : funC M.sc = true) : X.env.scope.kind = .function := by rw [g.sc]; exact funC_ok h
theorem Gd.sw (g : Gd M X C W) {y : Str} {py pos : Pos} {scope : Scope} {l : Nat} {elt : Expr} {gs : List Comprehension} (h : swC M y py pos scope = true) : swapsWith (.ListComp elt gs scope pos) (some (.Name y py)) l X.env = pure true ∧ X.env.scope.names.lookup y = some .local := by
  unfold swC at h
  simp only [Bool.and_eq_true, Bool.not_eq_true'] at h
  obtain ⟨⟨⟨h1, h2⟩, h3⟩, h4⟩ := h
  exact ⟨sw_true (g.fun_ h1) (g.lcl h2) h3 h4, g.lcl h2⟩
theorem mSet_ok (g : Gd M X C W) {i : Nat} {e : E} {tg v : Expr} {spos : Pos} (h : mSet M i e tg v = true) : PS X (.Assign [tg] v spos) (RdS (gx X) W fun ρ => bnd (ev C e ρ) fun v => bnd (bind1 (.nm i) v ρ) fun ρ' => ret (.nx, ρ')) := by
  unfold mSet at h
  split at h
  · rename_i m elt t it c own y py elt' tg iter ifs scope pos
    simp only [Bool.and_eq_true, decide_eq_true_eq] at h
    obtain ⟨⟨h1, h2⟩, h3⟩ := h
    obtain ⟨sw, lc⟩ := g.sw (l := spos.line) (elt := elt') (gs := [⟨tg, iter, ifs, 0⟩]) h2
    unfold mE at h3
    simp only [Bool.and_eq_true, decide_eq_true_eq] at h3
    obtain ⟨⟨⟨⟨⟨⟨⟨c1, c2⟩, c3⟩, c4⟩, c5⟩, c6⟩, c7⟩, c8⟩ := h3
    have ow : (ownP M own).map (·.2) = own := by unfold ownP; rw [List.map_map]; exact List.map_id' own
    have bo : BlkOk X.N X.env.scope scope (ownP M own) := by rw [g.N, g.sc]; exact blkOk_by c1
    have r := s_setLc1 (m := m) (pos := pos) (spos := spos) g.calm g.nd (g.ix h1) lc sw bo (by rw [ow]; exact c2) (okI it M tg iter c4 X C W g) (fun s H D cl fp => mTg_ok (g.blk scope s H D cl fp) c5) (fun s H D cl fp => okIf c _ _ c7 c6 _ C NoW (g.blk scope s H D cl fp))
      (fun s H D cl fp => (okE elt _ _ c8 _ C NoW (g.blk scope s H D cl fp)).1) (fold_of c3)
    rw [ow] at r
    exact r
  · rename_i m elt t it c t1 it1 c1' own own1 y py elt' tg iter ifs tg1 iter1 ifs1 scope pos
    simp only [Bool.and_eq_true, decide_eq_true_eq] at h
    obtain ⟨⟨h1, h2⟩, h3⟩ := h
    obtain ⟨sw, lc⟩ := g.sw (l := spos.line) (elt := elt') (gs := [⟨tg, iter, ifs, 0⟩, ⟨tg1, iter1, ifs1, 0⟩]) h2
    unfold mE at h3
    simp only [Bool.and_eq_true, decide_eq_true_eq] at h3
    obtain ⟨⟨⟨⟨⟨⟨⟨⟨⟨⟨⟨⟨⟨⟨d1, d2⟩, d3⟩, d4⟩, d5⟩, d6⟩, d7⟩, d8⟩, d9⟩, d10⟩, d11⟩, d12⟩, d13⟩, d14⟩, d15⟩ := h3
    have ow : (ownP M own).map (·.2) = own := by unfold ownP; rw [List.map_map]; exact List.map_id' own
    have bo : BlkOk X.N X.env.scope scope (ownP M own) := by rw [g.N, g.sc]; exact blkOk_by d1
    have r := s_setLc2 (m := m) (pos := pos) (spos := spos) g.calm g.nd (g.ix h1) lc sw bo (by rw [ow]; exact d2) (by rw [ow]; exact d3) d4 (okI it M tg iter d7 X C W g) (fun s H D cl fp => mTg_ok (g.blk scope s H D cl fp) d8) (fun s H D cl fp => okIf c _ _ d10 d9 _ C NoW (g.blk scope s H D cl fp))
      (fun s H D cl fp => okI it1 _ tg1 iter1 d11 _ C NoW (g.blk scope s H D cl fp)) (fun s H D cl fp => mTg_ok (g.blk scope s H D cl fp) d12) (fun s H D cl fp => okIf c1' _ _ d14 d13 _ C NoW (g.blk scope s H D cl fp))
      (fun s H D cl fp => (okE elt _ _ d15 _ C NoW (g.blk scope s H D cl fp)).1) (fold_of d5) (fun env => fold_of d6)
    rw [ow] at r
    exact r
  · cases h
theorem mPar_ok (g : Gd M X C W) {is : List Nat} {es : Es} {ts vs : List Expr} {kt k2 : Nat} {pt pt2 pos : Pos} (hk : funC M.sc = true) (h : mPar M is es ts vs = true) :
    PS X (.Assign [.Tuple ts kt pt] (.Tuple vs k2 pt2) pos) (RdS (gx X) W fun ρ => bnd (evs C es ρ) fun ws => if ws.length = is.length then ret (.nx, setAll is ws ρ) else bad) := by
  unfold mPar at h
  split at h
  · simp only [Bool.and_eq_true, decide_eq_true_eq, Bool.not_eq_true'] at h
    obtain ⟨⟨⟨⟨⟨⟨⟨⟨⟨⟨⟨h1, h2⟩, h3⟩, h4⟩, h5⟩, h6⟩, h7⟩, h8⟩, h9⟩, h10⟩, h11⟩, h12⟩ := h
    exact s_par2 g.calm g.nd (g.ix h1) (g.ix h2) h3 (g.lcl h5) (g.lcl h6) (okEs es M _ h12 (by simp [h10, h11]) X C W g) (sp_two (g.fun_ hk) (g.lcl h5) (g.lcl h6) h4 h7 h8 h9 h10 h11)
  · simp only [Bool.and_eq_true, decide_eq_true_eq, Bool.not_eq_true'] at h
    obtain ⟨⟨⟨⟨⟨⟨⟨⟨⟨⟨⟨⟨⟨⟨⟨⟨⟨⟨⟨h1, h2⟩, h3⟩, h4⟩, h5⟩, h6⟩, h7⟩, h8⟩, h9⟩, h10⟩, h11⟩, h12⟩, h13⟩, h14⟩, h15⟩, h16⟩, h17⟩, h18⟩, h19⟩, h20⟩ := h
    have h16' : (constantsAlone 8 _ && constantsAlone 8 _ && constantsAlone 8 _) = false := h16
    exact s_par3 g.calm g.nd (g.ix h1) (g.ix h2) (g.ix h3) h4 h5 h6 (g.lcl h10) (g.lcl h11) (g.lcl h12) (okEs es M _ h20 (by simp [h17, h18, h19]) X C W g) (sp_three (g.fun_ hk) (g.lcl h10) (g.lcl h11) (g.lcl h12) h7 h8 h9 h13 h14 h15 h16' h17 h18 h19)
  · cases h
end
theorem sub_asg {o i : Expr} {ps : Pos} {env : PySem.Env} (h : plainE i = true) : ∀ v, assign (.Subscript o i ps) env v = (do
      let ov ← holding [v] (eval o env)
      let iv ← holding [v, ov] (eval i env)
      standAt ps
      holding [v, ov, iv] (setItem ov iv v)
      release [v, ov, iv] []) := fun v => by
  cases i <;> first | rfl | exact Bool.noConfusion h
theorem sw_sole {e t : Expr} {l : Nat} {env : PySem.Env} (h : noComp e = true) : swapsWithSole [t] e l env = pure false := sw_no h
theorem celC_ok {M : MC} {X : Cx} {C : Ctx} {W : WX} (g : Gd M X C W) {x : Str} (h : celC M.sc x = true) : X.env.kindOf x = some .cell := by
  show X.env.scope.names.lookup x = some .cell
  rw [g.sc]
  unfold celC at h
  split at h
  · assumption
  · cases h
theorem swN_ok {M : MC} {X : Cx} {C : Ctx} {W : WX} (g : Gd M X C W) {tg v : Expr} {l : Nat} (h : swN M tg v = true) : swapsWithSole [tg] v l X.env = pure false := by
  unfold swN at h
  rw [Bool.or_eq_true] at h
  rcases h with h | h
  · exact sw_sole h
  · split at h
    · rename_i y p elt gs sc pos
      have k := celC_ok g h
      have r : swapsWith (.ListComp elt gs sc pos) (some (.Name y p)) l X.env = pure false := by
        have d : (NameKind.cell == NameKind.local) = false := rfl
        unfold swapsWith
        simp [k, d]
      exact r
    · rename_i y p kx vx gs sc pos
      have k := celC_ok g h
      have r : swapsWith (.DictComp kx vx gs sc pos) (some (.Name y p)) l X.env = pure false := by
        have d : (NameKind.cell == NameKind.local) = false := rfl
        unfold swapsWith
        simp [k, d]
      exact r
    · cases h
theorem celT_ok {M : MC} {X : Cx} {C : Ctx} {W : WX} (g : Gd M X C W) {tg v : Expr} (h : celT M tg v = true) : swappedStores [tg] v X.env = pure none := by
  unfold celT at h
  split at h
  · rename_i x px y py kt pt a b k2 pt2
    rw [Bool.or_eq_true] at h
    have k : ¬ (X.env.kindOf x = some .local ∧ X.env.kindOf y = some .local) := by
      rintro ⟨k1, k2⟩
      rcases h with h | h
      · rw [celC_ok g h] at k1; cases k1
      · rw [celC_ok g h] at k2; cases k2
    unfold swappedStores
    simp only [List.filterMap_cons, List.filterMap_nil, List.head?_cons, Option.map_some, Option.getD_some, Expr.pos, List.length_cons, List.length_nil]
    by_cases k1 : X.env.kindOf x = some .local
    · have k2 : ¬ X.env.kindOf y = some .local := fun z => k ⟨k1, z⟩
      simp [k1, k2]
    · by_cases k2 : X.env.kindOf y = some .local
      · by_cases hl : py.line = px.line
        · simp [k1, k2, hl]
        · simp [k1, k2, hl]
      · simp [k1, k2]
  · cases h
mutual
theorem okS : ∀ (s : S) (M : MC) (x : Stmt), mS M s x = true → ∀ (X : Cx) (C : Ctx) (W : WX), Gd M X C W → PassesOwn (model X.prog X.w) X.A X.env X.xe → PS X x (RdS (gx X) W fun ρ => ex C s ρ)
  | .asg t e, M, x, h => by
    intro X C W g hp
    unfold mS at h
    split at h
    · rename_i tg v pos
      rw [Bool.or_eq_true] at h
      rcases h with h | h
      · simp only [Bool.and_eq_true] at h
        obtain ⟨⟨⟨⟨h1, h2⟩, h3⟩, h4⟩, h5⟩ := h
        refine s_asg (okE e M _ h3 X C W g).1 (mTg_ok g h2) (swN_ok g h1) ?_ (asg_one h4)
        simp only [Bool.or_eq_true] at h5
        rcases h5 with (h5 | h5) | h5
        · exact sp_no h5
        · exact sp_no2 h5
        · exact celT_ok g h5
      · split at h
        · exact mSet_ok g h
        · cases h
    · cases h
  | .par is es, M, x, h => by
    intro X C W g hp
    unfold mS at h
    split at h
    · rw [Bool.and_eq_true] at h
      exact mPar_ok g h.1 h.2
    · cases h
  | .sub o i e, M, x, h => by
    intro X C W g hp
    have u := g.un
    unfold mS at h
    split at h
    · simp only [Bool.and_eq_true] at h
      obtain ⟨⟨⟨⟨h1, h2⟩, h3⟩, h4⟩, h5⟩ := h
      exact s_sub (by omega) (okE e M _ h2 X C W g).1 (okE o M _ h3 X C W g).1 (okE i M _ h4 X C W g).1 (sub_asg h5) (sw_sole h1) (sp_no rfl) rfl
    · cases h
  | .sub2 _ _ _ _ _ _, M, x, h => by unfold mS at h; cases h
  | .exp e, M, x, h => by
    intro X C W g hp
    unfold mS at h
    split at h
    · rw [Bool.and_eq_true] at h
      exact s_exp (okE e M _ h.2 X C W g).1 (sw_no h.1)
    · cases h
  | .ife c a b, M, x, h => by
    intro X C W g hp
    unfold mS at h
    split at h
    · simp only [Bool.and_eq_true] at h
      obtain ⟨⟨h1, h2⟩, h3⟩ := h
      exact s_ife (okE c M _ h1 X C W g).2 (okSs a M _ h2 X C W g hp) (okSs b M _ h3 X C W g hp)
    · cases h
  | .for_ t it b, M, x, h => by
    intro X C W g hp
    unfold mS at h
    split at h
    · simp only [Bool.and_eq_true] at h
      obtain ⟨⟨⟨h1, h2⟩, h3⟩, h4⟩ := h
      exact s_for hp g.calm (okI it M _ _ h2 X C W g) (mTg_ok g h1) (okSs b M _ h4 X C W g hp) (fold_of h3)
    · cases h
  | .whl c b, M, x, h => by
    intro X C W g hp
    unfold mS at h
    split at h
    · simp only [Bool.and_eq_true] at h
      exact s_whl hp (okE c M _ h.1 X C W g).2 (okSs b M _ h.2 X C W g hp)
    · cases h
  | .ret e, M, x, h => by
    intro X C W g hp
    unfold mS at h
    split at h
    · exact s_ret (okE e M _ h X C W g).1
    · split at h
      · exact s_retN
      · cases h
    · cases h
  | .ris _ _ _, M, x, h => by unfold mS at h; cases h
  | .pas, M, x, h => by
    intro X C W g hp
    unfold mS at h
    split at h
    · exact s_pass
    · cases h
  | .brk, M, x, h => by
    intro X C W g hp
    unfold mS at h
    split at h
    · exact s_brk
    · cases h
  | .nev, M, x, h => fun X C W g hp => s_nev
theorem okSs : ∀ (ss : Ss) (M : MC) (xs : List Stmt), mSs M ss xs = true → ∀ (X : Cx) (C : Ctx) (W : WX), Gd M X C W → PassesOwn (model X.prog X.w) X.A X.env X.xe → PSs X xs (RdS (gx X) W fun ρ => exs C ss ρ)
  | .nil, M, xs, h => by
    intro X C W g hp
    unfold mSs at h
    split at h
    · exact ss_nil
    · cases h
  | .cons s ss, M, xs, h => by
    intro X C W g hp
    unfold mSs at h
    split at h
    · exact ⟨fun pins s σ H D I q => by
        obtain ⟨ρ, st, μ, en, sr, p⟩ := q
        exact p.elim⟩
    · split at h
      · rw [Bool.and_eq_true] at h
        exact ss_cons (okS s M _ h.1 X C W g hp) (okSs ss M _ h.2 X C W g hp)
      · cases h
end
end EV
end

section
set_option autoImplicit false
set_option linter.all false
set_option maxRecDepth 100000
set_option Elab.async false
/-! EvFn: a def keeps what its term says. -/
namespace EV
open PySem PySem.Spec
open PyProof.Rows
open L2
/-- the def named x keeps the promise of fn, with room k -/
def DefOk (G : Wd) (base : Heap) (k : Nat) (x : Str) (fn : Fn) : Prop :=
  ∃ (f : Addr) (fd : FuncData) (ps : List Str), FnOk G.P G.w G.K G.mg base (L2.CX G.P G.w) k f fd ps (spOf G fn) ∧ G.mg x = some (.ref f) ∧ PySem.W.keepIn G.K (.ref f) = true ∧ Binds G.K fd ps []
theorem DefOk.mono {G : Wd} {base : Heap} {j k : Nat} {x : Str} {fn : Fn} (h : DefOk G base j x fn) (l : j ≤ k) : DefOk G base k x fn := by
  obtain ⟨f, fd, ps, a, b, c, d⟩ := h
  exact ⟨f, fd, ps, a.mono l, b, c, d⟩
/-- a constant of the module -/
def ConOk (G : Wd) (x : Str) (d : Dt) : Prop := ∃ v u, G.mg x = some u ∧ RelV v u ∧ ∀ H, RF G.P G.w G.K H d v
theorem def_ok {G : Wd} {base : Heap} {k : Nat} {x qual : Str} {params : Arguments} {body : List Stmt} {scope : Scope} {f : Addr} {fd : FuncData} {N ps : List Str} {b : Ss} {C : Ctx} {M : MC} {keep : Bool} {np ns : Nat}
    (F : FunD G.K x qual params body scope [] [] f fd) (S : FnScope N ps scope) (hM : M.N = N ∧ M.sc = scope ∧ M.fn = fun _ => true) (hn : N.length = ns) (hp : ps.length = np)
    (hfs : ∀ (j : Nat) (y : Str), M.fs[j]? = some y → ∃ fn, C.fs[j]? = some (y, fn) ∧ DefOk G base k y fn) (hgs : ∀ (j : Nat) (y : Str), M.gs[j]? = some y → ∃ d, C.gs[j]? = some (y, d) ∧ ConOk G y d)
    (hbl : ∀ y, y ∈ M.bl → G.mg y = none) (hgc : M.gcd = true → G.mg "gcd" = some (.builtin "math.gcd")) (hb : mSs M b body = true) (hmg : G.mg x = some (.ref f)) (hbi : Binds G.K fd ps []) : DefOk G base (k + 1) x (den C np ns keep b) := by
  refine ⟨f, fd, ps, F.ok S (fun vs H Q E h => (den_len h).trans hp.symm) fun cdv A outer s H vs Q E hr hsp => ⟨_, okSs b M body hb _ C (fun c d _ H' => E c d H') ?_ ?_, den_body hn hsp⟩, hmg, F.kp, hbi⟩
  · exact {
      calm := rfl
      nd := S.nd
      N := hM.1.symm
      sc := hM.2.1.symm
      fn := hM.2.2.symm
      un := by have := hr.un; show (A.deeper _).units + 100 < cLine; omega
      fs := fun j y e => by
        obtain ⟨fn, a, f', fd', ps', c1, c2, c3, c4⟩ := hfs j y e
        exact ⟨fn, a, k, f', fd', ps', c1, hr, c2, c3, c4⟩
      gs := hgs
      bl := hbl
      gcd := hgc
      tk := takes_of rfl rfl rfl rfl }
  · exact passes_of rfl
/-! ### many defs -/
theorem fs_nil {G : Wd} {base : Heap} {k : Nat} : ∀ p ∈ ([] : List (Str × Fn)), DefOk G base k p.1 p.2 := fun _ h => nomatch h
theorem fs_cons {G : Wd} {base : Heap} {j k : Nat} {x : Str} {f : Fn} {l : List (Str × Fn)} (h : DefOk G base j x f) (hk : j ≤ k) (t : ∀ p ∈ l, DefOk G base k p.1 p.2) : ∀ p ∈ (x, f) :: l, DefOk G base k p.1 p.2 := fun p hp => by
  rcases List.mem_cons.mp hp with rfl | hp
  · exact h.mono hk
  · exact t p hp
theorem fs_of {G : Wd} {base : Heap} {k : Nat} {l : List (Str × Fn)} {ns : List Str} (e : ns = l.map (·.1)) (h : ∀ p ∈ l, DefOk G base k p.1 p.2) : ∀ (j : Nat) (y : Str), ns[j]? = some y → ∃ fn, l[j]? = some (y, fn) ∧ DefOk G base k y fn := fun j y q => by
  rw [e, List.getElem?_map] at q
  obtain ⟨p, hp, rfl⟩ := Option.map_eq_some_iff.mp q
  exact ⟨p.2, hp, h p (List.mem_of_getElem? hp)⟩
theorem gs_nil {G : Wd} : ∀ p ∈ ([] : List (Str × Dt)), ConOk G p.1 p.2 := fun _ h => nomatch h
theorem gs_cons {G : Wd} {x : Str} {d : Dt} {l : List (Str × Dt)} (h : ConOk G x d) (t : ∀ p ∈ l, ConOk G p.1 p.2) : ∀ p ∈ (x, d) :: l, ConOk G p.1 p.2 := fun p hp => by
  rcases List.mem_cons.mp hp with rfl | hp
  · exact h
  · exact t p hp
theorem gs_of {G : Wd} {l : List (Str × Dt)} {ns : List Str} (e : ns = l.map (·.1)) (h : ∀ p ∈ l, ConOk G p.1 p.2) : ∀ (j : Nat) (y : Str), ns[j]? = some y → ∃ d, l[j]? = some (y, d) ∧ ConOk G y d := fun j y q => by
  rw [e, List.getElem?_map] at q
  obtain ⟨p, hp, rfl⟩ := Option.map_eq_some_iff.mp q
  exact ⟨p.2, hp, h p (List.mem_of_getElem? hp)⟩
/-- a def of the module's top, by its place in the text -/
def FnAt (G : Wd) (x : Str) (st : Stmt) : Prop := ∃ (f : Addr) (fd : FuncData), FunD G.K x x (defArgs st) (defBody st) (defScope st) [] [] f fd ∧ G.mg x = some (.ref f)
end EV
end

section
set_option autoImplicit false
set_option linter.all false
set_option maxRecDepth 100000
set_option Elab.async false
/-! EvHd: what the law's def is asked at the head. -/
namespace EV
open PySem PySem.Spec
open PyProof.Rows
open L2
/-- the law's def gives True, however the script lies -/
def Right (f : Fn) (ns : List Int) : Prop := (∃ st, f [.d (.list (ns.map .int))] [] = .ok (.d (.bool true)) st) ∧ ∃ st, f [.ref 0] [.kl (ns.map .int)] = .ok (.d (.bool true)) st
theorem ints_rf {G : Wd} {H : Hp} : ∀ ns : List Int, G.Fs H (ns.map .int) (ns.map V.int)
  | [] => RFs.nil
  | n :: ns => RFs.cons (by rw [RF]) (ints_rf ns)
theorem right_sp {G : Wd} {f : Fn} {ns : List Int} {H : Hp} {a : Addr} (h : Right f ns) (o : Only H) (q : SqL G.K H a (ns.map V.int)) : spOf G f [.ref a] H (fun v _ => v = .bl true) fun _ _ _ => False := by
  have fin : ∀ {μ : Loc_} {st : Sto} {v : Val} {st' : Sto}, f [v] st = .ok (.d (.bool true)) st' → Post G (fun _ _ _ => False) μ st H (f [v] st) fun v μ' st' H' => ∀ x, RV G μ' st' H' v x → x = .bl true := fun {μ st v st'} e => by
    rw [e]
    exact fun μ' H' s sr x rx => rv_bool rx
  rcases q with q | q
  · have fr : FzL H a (ns.map V.int) := by
      rcases q with q | q
      · rcases o a with z | ⟨ob, xs, z⟩
        · rw [z] at q; cases q
        · rw [z] at q; cases q
      · exact q
    obtain ⟨st, e⟩ := h.1
    refine ⟨fun _ => 0, [], [.d (.list (ns.map .int))], ⟨fun n c z => by simp at z, fun n m c c' z => by simp at z⟩, .cons ?_ .nil, fin e⟩
    show RF _ _ _ _ _ _
    rw [RF]
    exact ⟨a, _, rfl, fr, ints_rf ns⟩
  · obtain ⟨st, e⟩ := h.2
    refine ⟨fun _ => a, [.kl (ns.map .int)], [.ref 0], ⟨fun n c z => ?_, fun n m c c' z l => ?_⟩, .cons ⟨by simp, rfl⟩ .nil, fin e⟩
    · cases n with
      | zero => cases z; exact ⟨_, q, ints_rf ns⟩
      | succ n => cases z
    · cases n with
      | zero => cases z; cases l
      | succ n => cases z
end EV
end

section
set_option autoImplicit false
set_option linter.all false
set_option maxRecDepth 100000
set_option Elab.async false
/-! EvWalk: the head: facts of the module, the law's def entered. -/
namespace EV
open PySem PySem.Spec
open PyProof.Rows
open L2
/-- the def at f itself keeps its promise -/
theorem def_okE {G : Wd} {base : Heap} {k : Nat} {x qual : Str} {params : Arguments} {body : List Stmt} {scope : Scope} {f : Addr} {fd : FuncData} {N ps : List Str} {b : Ss} {C : Ctx} {M : MC} {keep : Bool} {np ns : Nat}
    (F : FunD G.K x qual params body scope [] [] f fd) (S : FnScope N ps scope) (hM : M.N = N ∧ M.sc = scope ∧ M.fn = fun _ => true) (hn : N.length = ns) (hp : ps.length = np)
    (hfs : ∀ (j : Nat) (y : Str), M.fs[j]? = some y → ∃ fn, C.fs[j]? = some (y, fn) ∧ DefOk G base k y fn) (hgs : ∀ (j : Nat) (y : Str), M.gs[j]? = some y → ∃ d, C.gs[j]? = some (y, d) ∧ ConOk G y d)
    (hbl : ∀ y, y ∈ M.bl → G.mg y = none) (hgc : M.gcd = true → G.mg "gcd" = some (.builtin "math.gcd")) (hb : mSs M b body = true) : FnOk G.P G.w G.K G.mg base (L2.CX G.P G.w) (k + 1) f fd ps (spOf G (den C np ns keep b)) := by
  refine F.ok S (fun vs H Q E h => (den_len h).trans hp.symm) fun cdv A outer s H vs Q E hr hsp => ⟨_, okSs b M body hb _ C (fun c d _ H' => E c d H') ?_ ?_, den_body hn hsp⟩
  · exact {
      calm := rfl
      nd := S.nd
      N := hM.1.symm
      sc := hM.2.1.symm
      fn := hM.2.2.symm
      un := by have := hr.un; show (A.deeper _).units + 100 < cLine; omega
      fs := fun j y e => by
        obtain ⟨fn, a, f', fd', ps', c1, c2, c3, c4⟩ := hfs j y e
        exact ⟨fn, a, k, f', fd', ps', c1, hr, c2, c3, c4⟩
      gs := hgs
      bl := hbl
      gcd := hgc
      tk := takes_of rfl rfl rfl rfl }
  · exact passes_of rfl
section
variable {ex : PySem.W.Frag → Bool} {fa : List He.Fa} {fn : List He.DefD} {K : PySem.W.Frag} {P : Program} {w : World} {mg : Str → Option Value} {h : Heap}
theorem SaysX.d (c : SaysX ex fa fn K) : He.SaysD fa fn K := congrArg (fun z : AlX => z.2) c
theorem SaysX.bit (c : SaysX ex fa fn K) : ex K = true := congrArg (fun z : AlX => z.1) c
theorem SaysX.has (c : SaysX ex fa fn K) {f : He.Fa} (hf : f ∈ fa) : f.ok K = true := by
  obtain ⟨i, hi⟩ := List.getElem?_of_mem hf
  exact c.d.fact i hi
theorem SaysX.def_ (c : SaysX ex fa fn K) (X : K.In h) (g : h.Ns mainGlobals mg) {x : Str} {st : Stmt} (hd : mkD x st ∈ fn) (hg : He.Fa.glo x ∈ fa) : FnAt ⟨P, w, K, mg⟩ x st := by
  obtain ⟨i, hi⟩ := List.getElem?_of_mem hd
  obtain ⟨fd, F⟩ := c.d.def_ i hi
  exact ⟨_, fd, F, He.glo_ok X g (c.has hg)⟩
theorem SaysX.free (c : SaysX ex fa fn K) (X : K.In h) (g : h.Ns mainGlobals mg) {bl : List Str} (hb : ∀ y ∈ bl, He.Fa.free y ∈ fa) : ∀ y, y ∈ bl → mg y = none := fun y hy => He.free_ok X g (c.has (hb y hy))
theorem SaysX.int (c : SaysX ex fa fn K) (X : K.In h) (g : h.Ns mainGlobals mg) {x : Str} {i : Int} (hi : He.Fa.int x i ∈ fa) : ConOk ⟨P, w, K, mg⟩ x (.int i) := by
  obtain ⟨t, e⟩ := He.int_ok X g (c.has hi)
  exact ⟨.int i, _, e, ⟨t, rfl⟩, fun H => by rw [RF]⟩
theorem SaysX.tup (c : SaysX ex fa fn K) (X : K.In h) (g : h.Ns mainGlobals mg) {x : Str} {a b : Int} (hg : He.Fa.glo x ∈ fa) (ht : He.tupB K x (two a b) = true) : ConOk ⟨P, w, K, mg⟩ x (.tuple [.int a, .int b]) := by
  refine ⟨.ref (He.ga K x), _, He.glo_ok X g (c.has hg), rfl, fun H => ?_⟩
  rw [RF]
  exact ⟨_, _, rfl, He.tupB_ok ht H, RFs.cons (by rw [RF]; rfl) (RFs.cons (by rw [RF]; rfl) RFs.nil)⟩
theorem blt_ok (X : K.In h) (g : h.Ns mainGlobals mg) {x : Str} {id : String} (c : bltB K x id = true) : mg x = some (.builtin id) := PySem.W.mg_of X g (He.eqO_ok c)
end
/-! ### the law's end -/
theorem walk_ev {l : PySem.W.OpenLaw} {n k : Nat} {q : Program} {loose : List Str} {XP : (Str → Option Value) → Heap → Prop} {YP : World → Heap → Prop} {d : DefRec} {x : Str}
    (hn : l.most = some n) (hn2 : n ≤ sizeLine) (hdf : d.params.defaults = []) (hr : Room k callerA)
    (F : ∀ (w : World) (mg : Str → Option Value) (fa : Addr) (h : Heap), YP w h → h.Ns mainGlobals mg → mg d.name = some (.ref fa) →
      ∃ (K : PySem.W.Frag) (fd : FuncData) (sp : Sp), K.In h ∧ (∀ (s : Shared) (u : Value), BindsTo s fd ⟨[u], []⟩ [(x, u)]) ∧
        (∀ (H : Hp) (a : Addr) (ns : List Int), Only H → SqL K H a (ns.map V.int) → sp [.ref a] H (fun v _ => v = .bl true) fun _ _ _ => False) ∧
        ∀ base : Heap, FnOk l.prog w K mg base (L2.CX l.prog w) k fa fd [x] sp) :
    PySem.W.WalkO q loose XP YP l.row.toRowW d [] (fun f vs => PySem.call f vs) := by
  refine Att.attach_call hn hdf fun w s₀ s₁ mg mb fa o pm cd doc a vs ns G Y ho hd hcd hmg hobj hints hlen hg => ?_
  obtain ⟨K, fd, sp, KX, hb, hsp, hF⟩ := F w mg fa _ Y G.T.g hmg
  refine law_call KX G.T.g G.T.b G.T.builtins G.T.nolimit hg hobj hints (Nat.le_trans hlen hn2) hr (fun base _ _ => hF base) hb (fun H hO hS => hsp H a ns hO hS) fun H e s' c => ?_
  obtain ⟨_, _, _, _, _, _, _, _, _, _, _, _, z⟩ := c
  exact z
end EV
end

section
set_option autoImplicit false
set_option linter.all false
set_option maxRecDepth 100000
/-! SpA: how terms are computed. -/
namespace EV.Sp
open PySem

/-! ### the monad -/
variable {α β γ : Type}
@[simp] theorem bnd_ret (a : α) (f : α → M β) : bnd (ret a) f = f a := (rfl)
@[simp] theorem bnd_bad (f : α → M β) : bnd (bad : M α) f = bad := (rfl)
@[simp] theorem ret_bnd (m : M α) : bnd m ret = m := by funext st; simp only [bnd]; cases m st <;> rfl
@[simp] theorem bnd_bnd (m : M α) (f : α → M β) (g : β → M γ) : bnd (bnd m f) g = bnd m fun a => bnd (f a) g := by
  funext st; simp only [bnd]; cases m st <;> rfl
@[simp] theorem bnd_ite (p : Prop) [Decidable p] (a b : M α) (f : α → M β) : bnd (if p then a else b) f = if p then bnd a f else bnd b f := by split <;> rfl
@[simp] theorem ite_ret (p : Prop) [Decidable p] (a b : α) : (if p then ret a else ret b : M α) = ret (if p then a else b) := by split <;> rfl
@[simp] theorem opt_some (a : α) : opt (some a) = ret a := (rfl)
@[simp] theorem opt_none : opt (none : Option α) = bad := (rfl)
@[simp] theorem dat_d (x : Dt) : dat (.d x) = ret x := (rfl)
@[simp] theorem dat2_d (x : Dt) : dat2 (.d x) = ret x := (rfl)
@[simp] theorem pureD_d (x : Dt) : pureD (.d x) = ret x := (rfl)
@[simp] theorem toD_d (x : Dt) : toD (.d x) = some x := (rfl)
@[simp] theorem freeze_d (x : Dt) : freeze (.d x) = ret (.d x) := (rfl)
@[simp] theorem fresh_z (x : Dt) : fresh 0 x = ret (.d x) := (rfl)
@[simp] theorem asBool_b (b : Bool) : asBool (.d (.bool b)) = ret b := (rfl)
@[simp] theorem bv_eq (b : Bool) : bv b = .d (.bool b) := (rfl)
@[simp] theorem datas_nil : datas [] = some [] := (rfl)
@[simp] theorem datas_cons (x : Dt) (vs : List Val) : datas (.d x :: vs) = (datas vs).map fun xs => x :: xs := by simp [datas]
@[simp] theorem datas_map (xs : List Dt) : datas (xs.map .d) = some xs := by
  induction xs with
  | nil => rfl
  | cons x xs ih => simp [datas, ih]
@[simp] theorem isiV_d (x : Dt) (ts : List Ty) : isiV (.d x) ts = ret (.d (.bool (ts.any (subTy (tyD x))))) := (rfl)
@[simp] theorem idxV_d (x i : Dt) : idxV (.d x) (.d i) = bnd (opt (idxD x i)) fun y => ret (.d y) := by
  funext st; simp only [idxV, bnd, opt]; cases idxD x i <;> rfl
@[simp] theorem cmpV_d (o : CmpOp) (x y : Dt) : cmpV o (.d x) (.d y) = bnd (opt (cmpD o x y)) fun b => ret (.d (.bool b)) := (rfl)
@[simp] theorem itemsV_d (x : Dt) : itemsV (.d x) = bnd (opt (itemsD x)) fun xs => ret (xs.map .d, []) := by
  funext st; simp only [itemsV, bnd, opt]; cases itemsD x <;> rfl
@[simp] theorem mkList_z (vs : List Val) : mkList 0 vs = bnd (opt (datas vs)) fun xs => ret (.d (.list xs)) := by
  funext st; simp only [mkList, bnd, opt]; cases datas vs <;> rfl
@[simp] theorem zipV_d (x y : Dt) : zipV (.d x) (.d y) = bnd (opt (seqD x)) fun xs => bnd (opt (seqD y)) fun ys => ret ((xs.zip ys).map fun p => .d (.tuple [p.1, p.2]), []) := by
  funext st; simp only [zipV, look, Option.bind_some, bnd, opt]; cases seqD x <;> cases seqD y <;> rfl
@[simp] theorem enmV_d (x : Dt) : enmV (.d x) = bnd (opt (seqD x)) fun xs => ret (xs.mapIdx fun i x => .d (.tuple [.int i, x]), []) := by
  funext st; simp only [enmV, look, Option.bind_some, bnd, opt]; cases seqD x <;> rfl
theorem rngV_ok {a b : Int} (ha : -(2 ^ 62) ≤ a) (ha' : a < 2 ^ 62) (hb : -(2 ^ 62) ≤ b) (hb' : b < 2 ^ 62) (hf : (b - a).toNat ≤ sizeLine) :
    rngV (.int a) (.int b) = ret ((List.range (b - a).toNat).map fun i => .d (.int (a + (i : Nat))), []) := by
  funext st; simp only [rngV, fits, ha, ha', hb, hb', hf, decide_true, Bool.and_true, if_true, ret]
theorem sl : sizeLine = 16777216 := by simp [sizeLine]
theorem rng0 {n : Nat} (h : n ≤ 16777216) : rngV (.int 0) (.int n) = ret ((List.range n).map fun i => .d (.int (i : Nat)), []) := by
  rw [rngV_ok (by decide) (by decide) (by omega) (by omega) (by rw [sl]; omega)]
  simp

/-! ### names -/
@[simp] theorem lookEnv_z (v : Val) (ρ : Env) : lookEnv (some v :: ρ) 0 = ret v := (rfl)
@[simp] theorem lookEnv_s (x : Option Val) (ρ : Env) (n : Nat) : lookEnv (x :: ρ) (n + 1) = lookEnv ρ n := (rfl)
@[simp] theorem wipeE_nil (ρ : Env) : wipeE ρ [] = ρ := (rfl)
@[simp] theorem wipeE_cons (ρ : Env) (i : Nat) (is : List Nat) : wipeE ρ (i :: is) = (wipeE ρ is).set i none := (rfl)
@[simp] theorem setD_nil (vs : List Dt) (ρ : Env) : setD [] vs ρ = ρ := by unfold setD; rfl
@[simp] theorem setD_cons (i : Nat) (is : List Nat) (v : Dt) (vs : List Dt) (ρ : Env) : setD (i :: is) (v :: vs) ρ = setD is vs (ρ.set i (some (.d v))) := (rfl)
@[simp] theorem setAll_nil (vs : List Val) (ρ : Env) : setAll [] vs ρ = ρ := by unfold setAll; rfl
@[simp] theorem setAll_cons (i : Nat) (is : List Nat) (v : Val) (vs : List Val) (ρ : Env) : setAll (i :: is) (v :: vs) ρ = setAll is vs (ρ.set i (some v)) := (rfl)
@[simp] theorem bind1_nm (i : Nat) (v : Val) (ρ : Env) : bind1 (.nm i) v ρ = ret (ρ.set i (some v)) := (rfl)
@[simp] theorem bind1_tp (is : List Nat) (xs : List Dt) (ρ : Env) : bind1 (.tp is) (.d (.tuple xs)) ρ = if xs.length = is.length then ret (setD is xs ρ) else bad := by
  funext st; simp only [bind1]; split <;> rfl

/-! ### loops as parts -/
noncomputable def comp (gs : List Nat) (f : Val → M (List α)) (vs : List Val) : M (List α) := fun st => shut (lcL gs st f vs) st
noncomputable def floop (gs : List Nat) (f : Val → Env → M (Flow × Env)) (vs : List Val) (ρ : Env) : M (Flow × Env) := fun st => forL gs st f vs ρ st

/-! ### terms -/
variable {C : Ctx} {ρ : Env}
@[simp] theorem ev_var (i : Nat) : ev C (.var i) ρ = lookEnv ρ i := by rw [ev]
@[simp] theorem ev_con (c : Const) : ev C (.con c) ρ = bnd (opt (conD c)) fun x => ret (.d x) := by rw [ev]
@[simp] theorem ev_glb (j : Nat) : ev C (.glb j) ρ = bnd (opt (C.gs[j]?)) fun p => ret (.d p.2) := by rw [ev]
@[simp] theorem ev_fun (j : Nat) : ev C (.fun_ j) ρ = bnd (opt (C.fs[j]?)) fun p => ret (.fn p.1) := by rw [ev]
@[simp] theorem ev_tup (es : Es) : ev C (.tup es) ρ = bnd (evs C es ρ) fun vs => bnd (opt (datas vs)) fun xs => ret (.d (.tuple xs)) := by rw [ev]
@[simp] theorem ev_lst (m : Nat) (es : Es) : ev C (.lst m es) ρ = bnd (evs C es ρ) fun vs => mkList m vs := by rw [ev]
@[simp] theorem ev_dct (m : Nat) (es : Es) : ev C (.dct m es) ρ = bnd (evs C es ρ) fun vs => bnd (opt (pairUp vs)) fun kvs => bnd (opt (dputAll [] kvs)) fun kvs' => fresh m (.dict kvs') := by rw [ev]
@[simp] theorem ev_dcv (ks : List Str) (vs : Es) : ev C (.dcv ks vs) ρ = bnd (evs C vs ρ) fun xs => if xs.length = ks.length then alloc (.dcv (ks.zip xs)) else bad := by rw [ev]
@[simp] theorem ev_bin (o : Operator) (a b : E) : ev C (.bin o a b) ρ = bnd (ev C a ρ) fun v => bnd (ev C b ρ) fun w => bnd (dat2 v) fun x => bnd (dat2 w) fun y => bnd (opt (binD o x y)) fun z => ret (.d z) := by rw [ev]
@[simp] theorem ev_neg (a : E) : ev C (.neg a) ρ = bnd (ev C a ρ) fun v => bnd (pureD v) fun x => bnd (opt (negD x)) fun z => ret (.d z) := by rw [ev]
@[simp] theorem ev_cmp (o : CmpOp) (a b : E) : ev C (.cmp o a b) ρ = bnd (ev C a ρ) fun v => bnd (ev C b ρ) fun w => cmpV o v w := by rw [ev]
@[simp] theorem ev_chn (o1 o2 : CmpOp) (a b c : E) : ev C (.chn o1 o2 a b c) ρ = bnd (ev C a ρ) fun v => bnd (ev C b ρ) fun w => bnd (cmpV o1 v w) fun r => bnd (asBool r) fun k => if k then bnd (ev C c ρ) fun u => cmpV o2 w u else ret (.d (.bool false)) := by rw [ev] <;> rfl
@[simp] theorem ev_not (a : E) : ev C (.not a) ρ = bnd (ev C a ρ) fun v => bnd (asBool v) fun k => ret (.d (.bool (!k))) := by rw [ev] <;> rfl
@[simp] theorem ev_and (es : Es) : ev C (.and es) ρ = bnd (evc C es ρ) fun k => ret (.d (.bool k)) := by rw [ev] <;> rfl
@[simp] theorem ev_or (es : Es) : ev C (.or es) ρ = bnd (evd C es ρ) fun k => ret (.d (.bool k)) := by rw [ev] <;> rfl
@[simp] theorem ev_ife (c a b : E) : ev C (.ife c a b) ρ = bnd (ev C c ρ) fun v => bnd (asBool v) fun k => if k then ev C a ρ else ev C b ρ := by rw [ev]
@[simp] theorem ev_idx (a b : E) : ev C (.idx a b) ρ = bnd (ev C a ρ) fun v => bnd (ev C b ρ) fun w => idxV v w := by rw [ev]
@[simp] theorem ev_sli (a : E) (lo hi : Eo) : ev C (.sli a lo hi) ρ = bnd (ev C a ρ) fun v => bnd (evo C lo ρ) fun l => bnd (evo C hi ρ) fun h => bnd (dat v) fun x => bnd (opt (sliD x l h)) fun z => ret (.d z) := by rw [ev]
@[simp] theorem ev_rev (a : E) : ev C (.rev a) ρ = bnd (ev C a ρ) fun v => bnd (dat v) fun x => bnd (opt (revD x)) fun z => ret (.d z) := by rw [ev]
@[simp] theorem ev_call (j : Nat) (es : Es) : ev C (.call j es) ρ = bnd (evs C es ρ) fun vs => bnd (opt (C.fs[j]?)) fun p => p.2 vs := by rw [ev]
@[simp] theorem ev_cak (j : Nat) (es : Es) (ks : List Str) (ws : Es) (perm : List Nat) : ev C (.cak j es ks ws perm) ρ = bnd (evs C es ρ) fun vs => bnd (evs C ws ρ) fun us => bnd (opt (C.fs[j]?)) fun p => bnd (opt (perm.mapM fun i => (vs ++ us)[i]?)) fun zs => p.2 zs := by rw [ev]
@[simp] theorem ev_b1 (f : B1) (m : Nat) (a : E) : ev C (.b1 f m a) ρ = bnd (ev C a ρ) fun v => bnd (dat v) fun x => bnd (opt (b1D f x)) fun z => fresh m z := by rw [ev]
@[simp] theorem ev_b2 (f : B2) (a b : E) : ev C (.b2 f a b) ρ = bnd (ev C a ρ) fun v => bnd (ev C b ρ) fun w => bnd (pureD v) fun x => bnd (pureD w) fun y => bnd (opt (b2D f x y)) fun z => ret (.d z) := by rw [ev]
@[simp] theorem ev_isi (a : E) (ts : List Ty) : ev C (.isi a ts) ρ = bnd (ev C a ρ) fun v => isiV v ts := by rw [ev]
@[simp] theorem ev_fld (a : E) (f : Str) : ev C (.fld a f) ρ = bnd (ev C a ρ) fun v => fldV v f := by rw [ev]
@[simp] theorem ev_mt (f : Mt) (o : E) (es : Es) : ev C (.mt f o es) ρ = bnd (ev C o ρ) fun v => bnd (mtK v) fun _ => bnd (evs C es ρ) fun vs => mtV f v vs := by rw [ev]
@[simp] theorem ev_itl (f : B1) (m : Nat) (it : Ir) : ev C (.itl f m it) ρ = bnd (evi C it ρ) fun q => bnd (opt (datas q.1)) fun xs => bnd (opt (b1D f (.list xs))) fun z => fresh m z := by rw [ev]
@[simp] theorem ev_frz (a : E) : ev C (.frz a) ρ = bnd (ev C a ρ) freeze := by rw [ev]
/-- a turn of a comprehension -/
noncomputable def turn1 (C : Ctx) (t : T) (own : List Nat) (c : Es) (elt : E) (ρ : Env) (x : Val) : M (List Dt) :=
  bnd (bind1 t x (wipeE ρ own)) fun ρ' => bnd (evc C c ρ') fun k => if k then bnd (ev C elt ρ') fun v => bnd (pureD v) fun y => ret [y] else ret []
@[simp] theorem ev_lc1 (m : Nat) (elt : E) (t : T) (it : Ir) (c : Es) (own : List Nat) : ev C (.lc1 m elt t it c own) ρ = bnd (evi C it ρ) fun q => bnd (comp q.2 (turn1 C t own c elt ρ) q.1) fun ys => fresh m (.list ys) := by
  rw [ev] <;> rfl
noncomputable def turn2 (C : Ctx) (n : Nat) (t : T) (own : List Nat) (c : Es) (t1 : T) (it1 : Ir) (c1 : Es) (own1 : List Nat) (elt : E) (ρ : Env) (x : Val) : M (List Dt) :=
  bnd (bind1 t x (wipeE ρ own)) fun ρ' => bnd (evc C c ρ') fun k => if k then bnd (evi C it1 ρ') fun q1 => if fits (n * q1.1.length) = false then bad else fun st => lcL q1.2 st (turn1 C t1 own1 c1 elt ρ') q1.1 st else ret []
@[simp] theorem ev_lc2 (m : Nat) (elt : E) (t : T) (it : Ir) (c : Es) (t1 : T) (it1 : Ir) (c1 : Es) (own own1 : List Nat) : ev C (.lc2 m elt t it c t1 it1 c1 own own1) ρ = bnd (evi C it ρ) fun q => bnd (comp q.2 (turn2 C q.1.length t own c t1 it1 c1 own1 elt ρ) q.1) fun ys => fresh m (.list ys) := by
  rw [ev]
  refine congrArg (bnd (evi C it ρ)) (funext fun q => funext fun st => ?_)
  refine congrArg (fun F => bnd (shut (lcL q.2 st F q.1)) (fun ys => fresh m (.list ys)) st) (funext fun x => ?_)
  simp only [turn2, turnF]
  refine congrArg _ (funext fun ρ' => congrArg _ (funext fun k => ?_))
  cases k
  · rfl
  · refine congrArg (bnd (evi C it1 ρ')) (funext fun q1 => ?_)
    split
    · rfl
    · rfl
noncomputable def turnd (C : Ctx) (t : T) (own : List Nat) (c : Es) (k v : E) (ρ : Env) (x : Val) : M (List (Dt × Dt)) :=
  bnd (bind1 t x (wipeE ρ own)) fun ρ' => bnd (evc C c ρ') fun b => if b then bnd (ev C k ρ') fun kv => bnd (ev C v ρ') fun vv => bnd (pureD kv) fun y => bnd (pureD vv) fun z => bnd (opt (if flatKey y then some () else none)) fun _ => ret [(y, z)] else ret []
@[simp] theorem ev_dc1 (m : Nat) (k v : E) (t : T) (it : Ir) (c : Es) (own : List Nat) : ev C (.dc1 m k v t it c own) ρ = bnd (evi C it ρ) fun q => bnd (comp q.2 (turnd C t own c k v ρ) q.1) fun kvs => fresh m (.dict (putAll kvs)) := by
  rw [ev] <;> rfl
@[simp] theorem turn1_app (t : T) (own : List Nat) (c : Es) (elt : E) (x : Val) : turn1 C t own c elt ρ x = bnd (bind1 t x (wipeE ρ own)) fun ρ' => bnd (evc C c ρ') fun k => if k then bnd (ev C elt ρ') fun v => bnd (pureD v) fun y => ret [y] else ret [] := (rfl)
@[simp] theorem turnd_app (t : T) (own : List Nat) (c : Es) (k v : E) (x : Val) : turnd C t own c k v ρ x = bnd (bind1 t x (wipeE ρ own)) fun ρ' => bnd (evc C c ρ') fun b => if b then bnd (ev C k ρ') fun kv => bnd (ev C v ρ') fun vv => bnd (pureD kv) fun y => bnd (pureD vv) fun z => bnd (opt (if flatKey y then some () else none)) fun _ => ret [(y, z)] else ret [] := (rfl)
@[simp] theorem evo_none : evo C .none ρ = ret none := by rw [evo]
@[simp] theorem evo_some (e : E) : evo C (.some e) ρ = bnd (ev C e ρ) fun v => bnd (pureD v) fun x => (match x with | .int i => ret (some i) | _ => bad) := by
  rw [evo] <;> exact congrArg _ (funext fun v => congrArg _ (funext fun x => by cases x <;> rfl))
@[simp] theorem evs_nil : evs C .nil ρ = ret [] := by rw [evs]
@[simp] theorem evs_cons (e : E) (es : Es) : evs C (.cons e es) ρ = bnd (ev C e ρ) fun v => bnd (evs C es ρ) fun vs => ret (v :: vs) := by rw [evs]
@[simp] theorem evc_nil : evc C .nil ρ = ret true := by rw [evc]
@[simp] theorem evc_cons (e : E) (es : Es) : evc C (.cons e es) ρ = bnd (ev C e ρ) fun v => bnd (asBool v) fun k => if k then evc C es ρ else ret false := by rw [evc]
@[simp] theorem evd_nil : evd C .nil ρ = ret false := by rw [evd]
@[simp] theorem evd_cons (e : E) (es : Es) : evd C (.cons e es) ρ = bnd (ev C e ρ) fun v => bnd (asBool v) fun k => if k then ret true else evd C es ρ := by rw [evd]
@[simp] theorem evi_val (e : E) : evi C (.val e) ρ = bnd (ev C e ρ) itemsV := by rw [evi]
@[simp] theorem evi_rg1 (a : E) : evi C (.rg1 a) ρ = bnd (ev C a ρ) fun v => bnd (pureD v) fun x => rngV (.int 0) x := by rw [evi]
@[simp] theorem evi_rg2 (a b : E) : evi C (.rg2 a b) ρ = bnd (ev C a ρ) fun v => bnd (ev C b ρ) fun w => bnd (pureD v) fun x => bnd (pureD w) fun y => rngV x y := by rw [evi]
@[simp] theorem evi_zip (a b : E) : evi C (.zip a b) ρ = bnd (ev C a ρ) fun v => bnd (ev C b ρ) fun w => zipV v w := by rw [evi]
@[simp] theorem evi_enm (a : E) : evi C (.enm a) ρ = bnd (ev C a ρ) enmV := by rw [evi]
@[simp] theorem evi_rvs (a : E) : evi C (.rvs a) ρ = bnd (ev C a ρ) rvsV := by rw [evi]

/-! ### statements -/
@[simp] theorem ex_asg (t : T) (e : E) : ex C (.asg t e) ρ = bnd (ev C e ρ) fun v => bnd (bind1 t v ρ) fun ρ' => ret (.nx, ρ') := by rw [ex]
@[simp] theorem ex_par (is : List Nat) (es : Es) : ex C (.par is es) ρ = bnd (evs C es ρ) fun vs => if vs.length = is.length then ret (.nx, setAll is vs ρ) else bad := by rw [ex]
@[simp] theorem ex_sub (o i e : E) : ex C (.sub o i e) ρ = bnd (ev C e ρ) fun x => bnd (ev C o ρ) fun v => bnd (ev C i ρ) fun k => bnd (putV v k x) fun _ => ret (.nx, ρ) := by rw [ex]
@[simp] theorem ex_exp (e : E) : ex C (.exp e) ρ = bnd (ev C e ρ) fun _ => ret (.nx, ρ) := by rw [ex]
@[simp] theorem ex_ife (c : E) (a b : Ss) : ex C (.ife c a b) ρ = bnd (ev C c ρ) fun v => bnd (asBool v) fun k => if k then exs C a ρ else exs C b ρ := by rw [ex]
/-- a for's turn -/
noncomputable def turnf (C : Ctx) (t : T) (b : Ss) (x : Val) (ρ : Env) : M (Flow × Env) := bnd (bind1 t x ρ) fun ρ' => exs C b ρ'
noncomputable def wtest (C : Ctx) (c : E) (ρ : Env) : M Bool := bnd (ev C c ρ) asBool
@[simp] theorem ex_for (t : T) (it : Ir) (b : Ss) : ex C (.for_ t it b) ρ = bnd (evi C it ρ) fun q => floop q.2 (turnf C t b) q.1 ρ := by rw [ex] <;> rfl
@[simp] theorem ex_whl (c : E) (b : Ss) : ex C (.whl c b) ρ = whl (wtest C c) (exs C b) ρ := by rw [ex] <;> rfl
@[simp] theorem turnf_app (t : T) (b : Ss) (x : Val) : turnf C t b x ρ = bnd (bind1 t x ρ) fun ρ' => exs C b ρ' := (rfl)
@[simp] theorem wtest_app (c : E) : wtest C c ρ = bnd (ev C c ρ) asBool := (rfl)
@[simp] theorem ex_ret (e : E) : ex C (.ret e) ρ = bnd (ev C e ρ) fun v => ret (.ret v, ρ) := by rw [ex]
@[simp] theorem ex_pas : ex C .pas ρ = ret (.nx, ρ) := by rw [ex]
@[simp] theorem ex_brk : ex C .brk ρ = ret (.brk, ρ) := by rw [ex]
@[simp] theorem exs_nil : exs C .nil ρ = ret (.nx, ρ) := by rw [exs]
/-- what follows a statement -/
noncomputable def andThen (C : Ctx) (ss : Ss) (q : Flow × Env) : M (Flow × Env) := match q.1 with
  | .nx => exs C ss q.2
  | f => ret (f, q.2)
@[simp] theorem exs_cons (s : S) (ss : Ss) : exs C (.cons s ss) ρ = bnd (ex C s ρ) (andThen C ss) := by
  rw [exs]; refine congrArg _ (funext fun q => ?_); unfold andThen; obtain ⟨f, r⟩ := q; cases f <;> rfl
@[simp] theorem andThen_nx (ss : Ss) : andThen C ss (.nx, ρ) = exs C ss ρ := (rfl)
@[simp] theorem andThen_ret (ss : Ss) (v : Val) : andThen C ss (.ret v, ρ) = ret (.ret v, ρ) := (rfl)
@[simp] theorem andThen_brk (ss : Ss) : andThen C ss (.brk, ρ) = ret (.brk, ρ) := (rfl)
@[simp] theorem andThen_ite (ss : Ss) (p : Prop) [Decidable p] (a b : Flow × Env) : andThen C ss (if p then a else b) = if p then andThen C ss a else andThen C ss b := by split <;> rfl

/-! ### what is so behind a run -/
@[irreducible] def wp (m : M α) (Q : α → Sto → Prop) (st : Sto) : Prop := match m st with
  | .ok a st' => Q a st'
  | _ => False
theorem wp_iff {m : M α} {Q : α → Sto → Prop} {st : Sto} : wp m Q st ↔ ∃ a st', m st = .ok a st' ∧ Q a st' := by
  unfold wp
  constructor
  · intro h; revert h; cases m st <;> intro h
    · exact ⟨_, _, rfl, h⟩
    · cases h
    · cases h
  · rintro ⟨a, st', e, h⟩; rw [e]; exact h
theorem wp.mono {m : M α} {Q R : α → Sto → Prop} {st : Sto} (h : wp m Q st) (k : ∀ a s, Q a s → R a s) : wp m R st := by
  obtain ⟨a, s, e, q⟩ := wp_iff.mp h
  exact wp_iff.mpr ⟨a, s, e, k a s q⟩
@[simp] theorem wp_ret (a : α) (Q : α → Sto → Prop) (st : Sto) : wp (ret a) Q st = Q a st := by unfold wp; rfl
@[simp] theorem wp_bnd (m : M α) (f : α → M β) (Q : β → Sto → Prop) (st : Sto) : wp (bnd m f) Q st = wp m (fun a s => wp (f a) Q s) st := by
  unfold wp bnd; cases m st <;> simp
@[simp] theorem wp_bad (Q : α → Sto → Prop) (st : Sto) : wp bad Q st = False := by unfold wp; rfl
@[simp] theorem wp_ite (p : Prop) [Decidable p] (a b : M α) (Q : α → Sto → Prop) (st : Sto) : wp (if p then a else b) Q st = if p then wp a Q st else wp b Q st := by split <;> rfl
/-- a run that gives just this -/
theorem eq_ret {m : M α} {a : α} (h : ∀ st, wp m (fun b s => b = a ∧ s = st) st) : m = ret a := by
  funext st
  obtain ⟨b, s, e, rfl, rfl⟩ := wp_iff.mp (h st)
  exact e
theorem wp_of {m : M α} {a : α} {st st' : Sto} {Q : α → Sto → Prop} (e : m st = .ok a st') (h : Q a st') : wp m Q st := by unfold wp; rw [e]; exact h

/-! ### defs -/
theorem back_same {st : Sto} {r : Sto → Res α} : back st st r = r st := by
  unfold back
  have h : Back st st := fun n c h e => .inl e
  rw [if_pos h, List.take_length]
theorem den_ret {np ns : Nat} {keep : Bool} {b : Ss} {args : List Val} {ρ0 ρ' : Env} {x : Dt} (hl : args.length = np) (h0 : args.map some ++ List.replicate (ns - np) none = ρ0) (h : exs C b ρ0 = ret (.ret (.d x), ρ')) : den C np ns keep b args = ret (.d x) := by
  funext st
  unfold den
  rw [if_pos hl, h0, h]
  cases keep
  · exact back_same
  · rfl
theorem den_nx {np ns : Nat} {keep : Bool} {b : Ss} {args : List Val} {ρ0 ρ' : Env} (hl : args.length = np) (h0 : args.map some ++ List.replicate (ns - np) none = ρ0) (h : exs C b ρ0 = ret (.nx, ρ')) : den C np ns keep b args = ret (.d .none) := by
  funext st
  unfold den
  rw [if_pos hl, h0, h]
  exact back_same
/-- what a body hands on -/
def Left (st : Sto) (Q : Val → Sto → Prop) (q : Flow × Env) (s : Sto) : Prop := match q.1 with
  | .ret (.ref _) => False
  | .ret v => Back st s ∧ Q v (s.take st.length)
  | .nx => Back st s ∧ Q (.d .none) (s.take st.length)
  | _ => False
theorem wp_den {np ns : Nat} {b : Ss} {args : List Val} {ρ0 : Env} {st : Sto} {Q : Val → Sto → Prop} (hl : args.length = np) (h0 : args.map some ++ List.replicate (ns - np) none = ρ0) (h : wp (exs C b ρ0) (Left st Q) st) : wp (den C np ns false b args) Q st := by
  obtain ⟨⟨f, ρ'⟩, s, e, q⟩ := wp_iff.mp h
  unfold wp den
  rw [if_pos hl, h0, e]
  cases f with
  | nx => simp only [Left] at q; simp only [back]; rw [if_pos q.1]; exact q.2
  | brk => cases q
  | cnt => cases q
  | ret v => cases v with
    | ref n => cases q
    | d x => simp only [Left] at q; simp only [back]; rw [if_neg (by decide), if_pos q.1]; exact q.2
    | err c fs => simp only [Left] at q; simp only [back]; rw [if_neg (by decide), if_pos q.1]; exact q.2
    | fn x => simp only [Left] at q; simp only [back]; rw [if_neg (by decide), if_pos q.1]; exact q.2
theorem den_ev {np ns : Nat} {b : Ss} {args : List Val} {ρ0 : Env} {x : Dt} (hl : args.length = np) (h0 : args.map some ++ List.replicate (ns - np) none = ρ0) (h : ∀ st, wp (exs C b ρ0) (fun q s => (q.1 = .ret (.d x)) ∧ ∃ t, s = st ++ t) st) : den C np ns false b args = ret (.d x) := by
  refine eq_ret fun st => wp_den hl h0 ((h st).mono ?_)
  rintro ⟨f, ρ'⟩ s ⟨e, t, rfl⟩
  cases e
  refine ⟨fun n c l z => .inl ?_, rfl, by simp⟩
  rw [List.getElem?_append_left l] at z; exact z
theorem wp_den_keep {np ns : Nat} {b : Ss} {args : List Val} {ρ0 : Env} {st : Sto} {Q : Val → Sto → Prop} (hl : args.length = np) (h0 : args.map some ++ List.replicate (ns - np) none = ρ0) (h : wp (exs C b ρ0) (fun q s => match q.1 with | .ret v => Q v s | _ => False) st) : wp (den C np ns true b args) Q st := by
  obtain ⟨⟨f, ρ'⟩, s, e, q⟩ := wp_iff.mp h
  unfold wp den
  rw [if_pos hl, h0, e]
  cases f with
  | nx => cases q
  | brk => cases q
  | cnt => cases q
  | ret v => exact q

/-! ### comprehensions -/
theorem held_nil {a b : Sto} : Held [] a b := fun n h => nomatch h
theorem held_refl (gs : List Nat) (st : Sto) : held gs st st = .ok () st := by
  have h : Held gs st st := fun n _ => rfl
  unfold held; rw [if_pos h]
theorem lcL_pure {δ : Type} {gs : List Nat} {st : Sto} {f : Val → M (List α)} {enc : δ → Val} {g : δ → List α} : ∀ {xs : List δ}, (∀ x ∈ xs, f (enc x) = ret (g x)) → lcL gs st f (xs.map enc) st = .ok (xs.flatMap g) st
  | [], _ => by simp only [List.map_nil, lcL, bnd, held_refl]; rfl
  | x :: xs, h => by
    have ih := lcL_pure (gs := gs) (st := st) (f := f) (enc := enc) (g := g) (xs := xs) fun y hy => h y (List.mem_cons_of_mem _ hy)
    simp only [List.map_cons, lcL, bnd, held_refl, h x List.mem_cons_self, ret, ih, List.flatMap_cons]
theorem comp_pure {δ : Type} {gs : List Nat} {f : Val → M (List α)} {enc : δ → Val} {g : δ → List α} {xs : List δ} (h : ∀ x ∈ xs, f (enc x) = ret (g x)) : comp gs f (xs.map enc) = ret (xs.flatMap g) := by
  funext st; simp only [comp, shut, lcL_pure h]; rfl
theorem flatMap_if {δ : Type} {c : δ → Bool} {g : δ → α} (xs : List δ) : xs.flatMap (fun x => if c x then [g x] else []) = (xs.filter c).map g := by
  induction xs with
  | nil => rfl
  | cons x xs ih => simp only [List.flatMap_cons, ih, List.filter_cons]; cases c x <;> rfl
theorem flatMap_one {δ : Type} {g : δ → α} (xs : List δ) : xs.flatMap (fun x => [g x]) = xs.map g := by
  induction xs with
  | nil => rfl
  | cons x xs ih => simp only [List.flatMap_cons, ih]; rfl
/-- a list of what comes of each item -/
theorem lc_map {δ : Type} {gs : List Nat} {f : Val → M (List α)} {enc : δ → Val} {xs : List δ} (g : δ → α) (h : ∀ x ∈ xs, f (enc x) = ret [g x]) : comp gs f (xs.map enc) = ret (xs.map g) := by
  rw [comp_pure h, flatMap_one]
theorem lc_filter {δ : Type} {gs : List Nat} {f : Val → M (List α)} {enc : δ → Val} {xs : List δ} (c : δ → Bool) (g : δ → α) (h : ∀ x ∈ xs, f (enc x) = ret (if c x then [g x] else [])) : comp gs f (xs.map enc) = ret ((xs.filter c).map g) := by
  rw [comp_pure h, flatMap_if]
/-- a comprehension whose turns change the store -/
theorem wp_lcL {δ : Type} {gs : List Nat} {st0 : Sto} {f : Val → M (List α)} {enc : δ → Val} {J : List δ → List α → Sto → Prop} : ∀ {xs : List δ} {ys : List α} {st : Sto} (Q : List α → Sto → Prop), J xs ys st → (∀ x xs ys st, J (x :: xs) ys st → Held gs st0 st ∧ wp (f (enc x)) (fun zs s => J xs (ys ++ zs) s) st) → (∀ ys st, J [] ys st → Held gs st0 st) → (∀ zs s, J [] (ys ++ zs) s → Q zs s) → wp (lcL gs st0 f (xs.map enc)) Q st
  | [], ys, st, Q, h, hs, he, hq => by
    simp only [List.map_nil, lcL, wp_bnd]
    refine wp_of (a := ()) (st' := st) (by unfold held; rw [if_pos (he _ _ h)]) ?_
    rw [wp_ret]
    exact hq [] st (by simpa using h)
  | x :: xs, ys, st, Q, h, hs, he, hq => by
    obtain ⟨h1, h2⟩ := hs x xs ys st h
    simp only [List.map_cons, lcL, wp_bnd]
    refine wp_of (a := ()) (st' := st) (by unfold held; rw [if_pos h1]) (h2.mono fun zs s j => ?_)
    refine wp_lcL (xs := xs) (ys := ys ++ zs) (J := J) _ j hs he fun ws s' j' => ?_
    rw [wp_ret]
    exact hq (zs ++ ws) s' (by simpa using j')
theorem wp_comp {δ : Type} {gs : List Nat} {f : Val → M (List α)} {enc : δ → Val} {xs : List δ} {st : Sto} {Q : List α → Sto → Prop} (J : List δ → List α → Sto → Prop) (h0 : J xs [] st) (hs : ∀ x xs ys s, J (x :: xs) ys s → Held gs st s ∧ wp (f (enc x)) (fun zs s' => J xs (ys ++ zs) s') s) (he : ∀ ys s, J [] ys s → Held gs st s ∧ Q ys s) : wp (comp gs f (xs.map enc)) Q st := by
  have h := wp_lcL (gs := gs) (st0 := st) (f := f) (enc := enc) (J := J) (xs := xs) (ys := []) (st := st) Q h0 hs (fun ys s j => (he ys s j).1) fun zs s j => (he _ s (by simpa using j)).2
  obtain ⟨a, s, e, q⟩ := wp_iff.mp h
  unfold wp comp shut
  rw [e]; exact q

/-! ### for -/
theorem wp_forL {δ : Type} {gs : List Nat} {st0 : Sto} {f : Val → Env → M (Flow × Env)} {enc : δ → Val} {J : List δ → Env → Sto → Prop} {Q : Flow × Env → Sto → Prop}
    (hs : ∀ x xs ρ s, J (x :: xs) ρ s → Held gs st0 s ∧ wp (f (enc x) ρ) (fun q s' => match q.1 with | .nx => J xs q.2 s' | .cnt => J xs q.2 s' | .brk => Q (.nx, q.2) s' | .ret v => Q (.ret v, q.2) s') s) (he : ∀ ρ s, J [] ρ s → Held gs st0 s ∧ Q (.nx, ρ) s) : ∀ {xs : List δ} {ρ : Env} {st : Sto}, J xs ρ st → wp (forL gs st0 f (xs.map enc) ρ) Q st
  | [], ρ, st, h => by
    simp only [List.map_nil, forL, wp_bnd]
    exact wp_of (a := ()) (st' := st) (by unfold held; rw [if_pos (he _ _ h).1]) (by rw [wp_ret]; exact (he _ _ h).2)
  | x :: xs, ρ, st, h => by
    obtain ⟨h1, h2⟩ := hs x xs ρ st h
    simp only [List.map_cons, forL, wp_bnd]
    refine wp_of (a := ()) (st' := st) (by unfold held; rw [if_pos h1]) (h2.mono ?_)
    rintro ⟨fl, ρ'⟩ s j
    cases fl with
    | nx => exact wp_forL hs he j
    | cnt => exact wp_forL hs he j
    | brk => rw [wp_ret]; exact j
    | ret v => rw [wp_ret]; exact j
theorem wp_floop {δ : Type} {gs : List Nat} {f : Val → Env → M (Flow × Env)} {enc : δ → Val} {xs : List δ} {ρ : Env} {st : Sto} {Q : Flow × Env → Sto → Prop} (J : List δ → Env → Sto → Prop) (h0 : J xs ρ st)
    (hs : ∀ x xs ρ s, J (x :: xs) ρ s → Held gs st s ∧ wp (f (enc x) ρ) (fun q s' => match q.1 with | .nx => J xs q.2 s' | .cnt => J xs q.2 s' | .brk => Q (.nx, q.2) s' | .ret v => Q (.ret v, q.2) s') s) (he : ∀ ρ s, J [] ρ s → Held gs st s ∧ Q (.nx, ρ) s) : wp (floop gs f (xs.map enc) ρ) Q st := by
  have := wp_forL hs he h0
  unfold wp at this ⊢
  exact this
/-- a fold: the names' values are told by a state -/
theorem floop_fold {δ σ : Type} {gs : List Nat} {f : Val → Env → M (Flow × Env)} {enc : δ → Val} (e : σ → Env) (step : σ → δ → σ) : ∀ {xs : List δ} {s0 : σ}, (∀ (pre : List δ) (x : δ) (post : List δ), xs = pre ++ x :: post → f (enc x) (e (pre.foldl step s0)) = ret (.nx, e (step (pre.foldl step s0) x))) → floop gs f (xs.map enc) (e s0) = ret (.nx, e (xs.foldl step s0))
  | xs, s0, h => by
    have key : ∀ (rest pre : List δ) (st : Sto), xs = pre ++ rest → forL gs st f (rest.map enc) (e (pre.foldl step s0)) st = .ok (.nx, e (xs.foldl step s0)) st := by
      intro rest
      induction rest with
      | nil => intro pre st hx; simp only [List.append_nil] at hx; simp only [List.map_nil, forL, bnd, held_refl, ← hx]; rfl
      | cons x rest ih =>
        intro pre st hx
        simp only [List.map_cons, forL, bnd, held_refl, h pre x rest hx, ret]
        have := ih (pre ++ [x]) st (by simp [hx])
        simpa using this
    funext st
    exact key xs [] st rfl

/-! ### while -/
theorem whl_of {c : Env → M Bool} {b : Env → M (Flow × Env)} {n : Nat} {ρ : Env} {st : Sto} {r : Res (Flow × Env)} (h : whN c b n ρ st = some r) : whl c b ρ st = r := by
  have mono : ∀ (n : Nat) (ρ : Env) (st : Sto) (r : Res (Flow × Env)), whN c b n ρ st = some r → ∀ k, whN c b (n + k) ρ st = some r := by
    intro n
    induction n with
    | zero => intro ρ st r h; simp [whN] at h
    | succ n ih =>
      intro ρ st r h k
      rw [Nat.succ_add]
      unfold whN at h ⊢
      revert h
      cases c ρ st with
      | ok a st' => cases a with
        | false => exact id
        | true =>
          dsimp only
          cases b ρ st' with
          | ok q st'' =>
            obtain ⟨fl, ρ'⟩ := q
            cases fl with
            | nx => exact fun h => ih _ _ _ h k
            | cnt => exact fun h => ih _ _ _ h k
            | brk => exact id
            | ret v => exact id
          | err e s => exact id
          | bad => exact id
      | err e s => exact id
      | bad => exact id
  have ex : ∃ n r, whN c b n ρ st = some r := ⟨n, r, h⟩
  unfold whl
  rw [dif_pos ex]
  have h' := Classical.choose_spec (Classical.choose_spec ex)
  have a := mono _ _ _ _ h (Classical.choose ex)
  have b' := mono _ _ _ _ h' n
  rw [Nat.add_comm] at a
  rw [a] at b'
  exact (Option.some.inj b').symm
theorem wp_whl {c : Env → M Bool} {b : Env → M (Flow × Env)} {ρ : Env} {st : Sto} {Q : Flow × Env → Sto → Prop} (J : Nat → Env → Sto → Prop) {n : Nat} (h0 : J n ρ st)
    (hs : ∀ n ρ s, J n ρ s → wp (c ρ) (fun k s1 => if k then wp (b ρ) (fun q s2 => match q.1 with | .nx => ∃ m, m < n ∧ J m q.2 s2 | .cnt => ∃ m, m < n ∧ J m q.2 s2 | .brk => Q (.nx, q.2) s2 | .ret v => Q (.ret v, q.2) s2) s1 else Q (.nx, ρ) s1) s) : wp (whl c b ρ) Q st := by
  have key : ∀ n ρ s, J n ρ s → ∃ k q s', whN c b k ρ s = some (.ok q s') ∧ Q q s' := by
    intro n
    induction n using Nat.strongRecOn with
    | ind n ih =>
      intro ρ s j
      obtain ⟨k, s1, e1, h1⟩ := wp_iff.mp (hs n ρ s j)
      cases k with
      | false => exact ⟨1, _, _, by unfold whN; rw [e1], h1⟩
      | true =>
        rw [if_pos rfl] at h1
        obtain ⟨⟨fl, ρ'⟩, s2, e2, h2⟩ := wp_iff.mp h1
        cases fl with
        | nx =>
          obtain ⟨m, hm, j'⟩ := h2
          obtain ⟨k, q, s', e, h⟩ := ih m hm _ _ j'
          exact ⟨k + 1, q, s', by unfold whN; rw [e1]; dsimp only; rw [e2]; exact e, h⟩
        | cnt =>
          obtain ⟨m, hm, j'⟩ := h2
          obtain ⟨k, q, s', e, h⟩ := ih m hm _ _ j'
          exact ⟨k + 1, q, s', by unfold whN; rw [e1]; dsimp only; rw [e2]; exact e, h⟩
        | brk => exact ⟨1, _, _, by unfold whN; rw [e1]; dsimp only; rw [e2], h2⟩
        | ret v => exact ⟨1, _, _, by unfold whN; rw [e1]; dsimp only; rw [e2], h2⟩
  obtain ⟨k, q, s', e, h⟩ := key n ρ st h0
  exact wp_of (whl_of e) h
end EV.Sp
end

section
set_option autoImplicit false
set_option linter.all false
set_option maxRecDepth 100000
/-! SpB: operators on data, case by case. -/
namespace EV.Sp
open PySem
@[simp] theorem conD_none : conD .none = some .none := (rfl)
@[simp] theorem conD_bool (b : Bool) : conD (.bool b) = some (.bool b) := (rfl)
@[simp] theorem conD_int (i : Int) : conD (.int i) = some (.int i) := (rfl)
@[simp] theorem conD_str (s : Str) : conD (.str s) = some (.str s) := (rfl)
@[simp] theorem negD_int (i : Int) : negD (.int i) = some (.int (-i)) := (rfl)
/-! ### what data is -/
@[simp] theorem tyD_int (i : Int) : tyD (.int i) = .int := (rfl)
@[simp] theorem tyD_bool (b : Bool) : tyD (.bool b) = .bool := (rfl)
@[simp] theorem tyD_none : tyD .none = .none := (rfl)
@[simp] theorem tyD_str (s : Str) : tyD (.str s) = .str := (rfl)
@[simp] theorem tyD_tuple (s : List Dt) : tyD (.tuple s) = .tuple := (rfl)
@[simp] theorem tyD_list (s : List Dt) : tyD (.list s) = .list := (rfl)
@[simp] theorem tyD_dict (s : List (Dt × Dt)) : tyD (.dict s) = .dict := (rfl)
theorem shaped_iff {x : Dt} : shaped x = (x.canLay0 && decide (x.depth ≤ 64)) := (rfl)
@[simp] theorem shaped_int (i : Int) : shaped (.int i) = true := by rw [shaped_iff]; rfl
@[simp] theorem shaped_none : shaped .none = true := by rw [shaped_iff]; rfl
@[simp] theorem shaped_bool (i : Bool) : shaped (.bool i) = true := by rw [shaped_iff]; rfl
theorem shaped_tup {xs : List Dt} : shaped (.tuple xs) = (PyData.canLayAll0 xs && decide (PyData.depthAll xs + 1 ≤ 64)) := by rw [shaped_iff]; simp only [PyData.canLay0, PyData.depth]; rfl
theorem shaped_lst {xs : List Dt} : shaped (.list xs) = (PyData.canLayAll0 xs && decide (PyData.depthAll xs + 1 ≤ 64)) := by rw [shaped_iff]; simp only [PyData.canLay0, PyData.depth]; rfl
@[simp] theorem shaped_tup0 : shaped (.tuple []) = true := by rw [shaped_tup]; rfl
@[simp] theorem shaped_lst0 : shaped (.list []) = true := by rw [shaped_lst]; rfl
@[simp] theorem eqv_int (i j : Int) : PyData.eqv (.int i) (.int j) = decide (i = j) := by simp [PyData.eqv]; rfl
@[simp] theorem eqv_bool (i j : Bool) : PyData.eqv (.bool i) (.bool j) = decide (i = j) := by simp [PyData.eqv]; rfl
@[simp] theorem eqv_str (i j : Str) : PyData.eqv (.str i) (.str j) = decide (i = j) := by
  simp only [PyData.eqv]
  by_cases h : i = j
  · simp [h]
  · simp [h]
@[simp] theorem eqv_none : PyData.eqv .none .none = true := by simp [PyData.eqv]
@[simp] theorem eqv_tuple (a b : List Dt) : PyData.eqv (.tuple a) (.tuple b) = PyData.eqvAll a b := by simp [PyData.eqv]
@[simp] theorem eqv_list (a b : List Dt) : PyData.eqv (.list a) (.list b) = PyData.eqvAll a b := by simp [PyData.eqv]
@[simp] theorem eqvAll_nn : PyData.eqvAll [] [] = true := by simp [PyData.eqvAll]
@[simp] theorem eqvAll_nc (x : Dt) (xs : List Dt) : PyData.eqvAll [] (x :: xs) = false := by simp [PyData.eqvAll]
@[simp] theorem eqvAll_cn (x : Dt) (xs : List Dt) : PyData.eqvAll (x :: xs) [] = false := by simp [PyData.eqvAll]
@[simp] theorem eqvAll_cc (x y : Dt) (xs ys : List Dt) : PyData.eqvAll (x :: xs) (y :: ys) = (PyData.eqv x y && PyData.eqvAll xs ys) := by simp [PyData.eqvAll]
@[simp] theorem eqvAll_n (xs : List Dt) : PyData.eqvAll xs [] = decide (xs = []) := by cases xs <;> simp
@[simp] theorem eqD_ok {x y : Dt} (hx : shaped x = true) (hy : shaped y = true) : eqD x y = some (PyData.eqv x y) := by simp [eqD, hx, hy]
/-! ### operators -/
@[simp] theorem add_int (i j : Int) : binD .Add (.int i) (.int j) = some (.int (i + j)) := (rfl)
@[simp] theorem add_str (a b : Str) : binD .Add (.str a) (.str b) = if fits (a.length + b.length) then some (.str (a ++ b)) else none := (rfl)
@[simp] theorem add_tuple (a b : List Dt) : binD .Add (.tuple a) (.tuple b) = if fits (a.length + b.length) then some (.tuple (a ++ b)) else none := (rfl)
@[simp] theorem add_list (a b : List Dt) : binD .Add (.list a) (.list b) = if fits (a.length + b.length) then some (.list (a ++ b)) else none := (rfl)
@[simp] theorem sub_int (i j : Int) : binD .Sub (.int i) (.int j) = some (.int (i - j)) := (rfl)
@[simp] theorem mul_int (i j : Int) : binD .Mult (.int i) (.int j) = if mulOk i j then some (.int (i * j)) else none := (rfl)
@[simp] theorem mul_tuple (a : List Dt) (j : Int) : binD .Mult (.tuple a) (.int j) = if decide (a ≠ []) && decide (2 ≤ j) && decide (j ≤ 1000) && decide (a.length ≤ 1000) then some (.tuple (List.replicate j.toNat a).flatten) else if j = 1 then some (.tuple a) else none := (rfl)
@[simp] theorem mul_list (a : List Dt) (j : Int) : binD .Mult (.list a) (.int j) = if decide (-(2 ^ 63) ≤ j) && decide (j < 2 ^ 63) && fits (a.length * j.toNat) then some (.list (List.replicate j.toNat a).flatten) else none := (rfl)
@[simp] theorem div_int (i j : Int) : binD .FloorDiv (.int i) (.int j) = if decide (j ≠ 0) && !Builtin.divisionGoesByPylong i j then some (.int (i.fdiv j)) else none := (rfl)
@[simp] theorem mod_int (i j : Int) : binD .Mod (.int i) (.int j) = if j = 0 then none else some (.int (i.fmod j)) := (rfl)
@[simp] theorem pow_int (i j : Int) : binD .Pow (.int i) (.int j) = if decide (0 ≤ j) && decide (j ≤ 1000000) && decide (i.natAbs < 2 ^ 64) then some (.int (i ^ j.toNat)) else none := (rfl)
@[simp] theorem cmp_eq (x y : Dt) : cmpD .Eq x y = eqD x y := by cases x <;> rfl
@[simp] theorem cmp_ne (x y : Dt) : cmpD .NotEq x y = (eqD x y).map not := by cases x <;> rfl
@[simp] theorem cmp_lt (x y : Dt) : cmpD .Lt x y = ltD x y := by cases x <;> rfl
@[simp] theorem lt_int (i j : Int) : ltD (.int i) (.int j) = some (decide (i < j)) := (rfl)
@[simp] theorem cmp_le (i j : Int) : cmpD .LtE (.int i) (.int j) = some (decide (i ≤ j)) := (rfl)
@[simp] theorem cmp_gt (i j : Int) : cmpD .Gt (.int i) (.int j) = some (decide (j < i)) := (rfl)
@[simp] theorem cmp_ge (i j : Int) : cmpD .GtE (.int i) (.int j) = some (decide (j ≤ i)) := (rfl)
@[simp] theorem cmp_is_none (x : Dt) : cmpD .Is x .none = some (isNone x) := by cases x <;> rfl
@[simp] theorem cmp_isnot_none (x : Dt) : cmpD .IsNot x .none = some (!isNone x) := by cases x <;> rfl
@[simp] theorem cmp_is_bool (b c : Bool) : cmpD .Is (.bool c) (.bool b) = some (decide (c = b)) := (rfl)
@[simp] theorem cmp_isnot_bool (b c : Bool) : cmpD .IsNot (.bool c) (.bool b) = some (!decide (c = b)) := (rfl)
@[simp] theorem isNone_none : isNone .none = true := (rfl)
@[simp] theorem isNone_int (i : Int) : isNone (.int i) = false := (rfl)
@[simp] theorem isNone_bool (i : Bool) : isNone (.bool i) = false := (rfl)
@[simp] theorem isNone_str (i : Str) : isNone (.str i) = false := (rfl)
@[simp] theorem isNone_tuple (i : List Dt) : isNone (.tuple i) = false := (rfl)
@[simp] theorem isNone_list (i : List Dt) : isNone (.list i) = false := (rfl)
@[simp] theorem isNone_dict (i : List (Dt × Dt)) : isNone (.dict i) = false := (rfl)
theorem cmp_in_list {x : Dt} {ys : List Dt} (hx : shaped x = true) (hy : shaped (.list ys) = true) : cmpD .In x (.list ys) = some (memD x ys) := by
  have : cmpD .In x (.list ys) = if shaped x && shaped (.list ys) then some (memD x ys) else none := by cases x <;> rfl
  rw [this, hx, hy]; rfl
theorem cmp_in_tuple {x : Dt} {ys : List Dt} (hx : shaped x = true) (hy : shaped (.tuple ys) = true) : cmpD .In x (.tuple ys) = some (memD x ys) := by
  have : cmpD .In x (.tuple ys) = if shaped x && shaped (.tuple ys) then some (memD x ys) else none := by cases x <;> rfl
  rw [this, hx, hy]; rfl
theorem cmp_notin_list {x : Dt} {ys : List Dt} (hx : shaped x = true) (hy : shaped (.list ys) = true) : cmpD .NotIn x (.list ys) = some (!memD x ys) := by
  have : cmpD .NotIn x (.list ys) = if shaped x && shaped (.list ys) then some (!memD x ys) else none := by cases x <;> rfl
  rw [this, hx, hy]; rfl
theorem cmp_notin_tuple {x : Dt} {ys : List Dt} (hx : shaped x = true) (hy : shaped (.tuple ys) = true) : cmpD .NotIn x (.tuple ys) = some (!memD x ys) := by
  have : cmpD .NotIn x (.tuple ys) = if shaped x && shaped (.tuple ys) then some (!memD x ys) else none := by cases x <;> rfl
  rw [this, hx, hy]; rfl
@[simp] theorem cmp_in_dict (x : Dt) (kvs : List (Dt × Dt)) : cmpD .In x (.dict kvs) = if keyFor kvs x then some (dhas kvs x) else none := by cases x <;> rfl
@[simp] theorem cmp_notin_dict (x : Dt) (kvs : List (Dt × Dt)) : cmpD .NotIn x (.dict kvs) = if keyFor kvs x then some (!dhas kvs x) else none := by cases x <;> rfl
@[simp] theorem idx_tuple (xs : List Dt) (i : Int) : idxD (.tuple xs) (.int i) = at? xs i := (rfl)
@[simp] theorem idx_list (xs : List Dt) (i : Int) : idxD (.list xs) (.int i) = at? xs i := (rfl)
@[simp] theorem idx_dict (kvs : List (Dt × Dt)) (k : Dt) : idxD (.dict kvs) k = if keyFor kvs k then dget kvs k else none := (rfl)
theorem at_nat {α : Type} (xs : List α) (n : Nat) : at? xs (n : Int) = xs[n]? := by
  unfold at? ixOf
  simp only [Int.natCast_nonneg, if_true, Int.toNat_natCast, Int.ofNat_lt]
  split
  · rfl
  · rename_i h; exact (List.getElem?_eq_none (by omega)).symm
@[simp] theorem at_z {α : Type} (x : α) (xs : List α) : at? (x :: xs) 0 = some x := at_nat (x :: xs) 0
@[simp] theorem at_1 {α : Type} (x y : α) (xs : List α) : at? (x :: y :: xs) 1 = some y := at_nat (x :: y :: xs) 1
@[simp] theorem at_2 {α : Type} (x y z : α) (xs : List α) : at? (x :: y :: z :: xs) 2 = some z := at_nat (x :: y :: z :: xs) 2
@[simp] theorem at_3 {α : Type} (x y z u : α) (xs : List α) : at? (x :: y :: z :: u :: xs) 3 = some u := at_nat (x :: y :: z :: u :: xs) 3
theorem at_m1 {α : Type} (xs : List α) : at? xs (-1) = xs.getLast? := by
  unfold at? ixOf
  rw [if_neg (by decide)]
  cases xs with
  | nil => rfl
  | cons x xs =>
    have h : -(((x :: xs).length : Nat) : Int) ≤ -1 := by simp only [List.length_cons]; omega
    rw [if_pos h, Option.bind_some, List.getLast?_eq_getElem?]
    congr 1
    simp only [List.length_cons]; omega
@[simp] theorem sli_tuple (xs : List Dt) (lo hi : Option Int) : sliD (.tuple xs) lo hi = some (.tuple (cut xs lo hi)) := (rfl)
@[simp] theorem sli_list (xs : List Dt) (lo hi : Option Int) : sliD (.list xs) lo hi = some (.list (cut xs lo hi)) := (rfl)
@[simp] theorem rev_list (xs : List Dt) : revD (.list xs) = some (.list xs.reverse) := (rfl)
theorem cut_from {α : Type} (xs : List α) (n : Nat) : cut xs (some (n : Int)) none = xs.drop n := by
  unfold cut cutIx
  simp only
  rw [if_neg (by omega)]
  simp only [Int.toNat_natCast]
  by_cases h : n ≤ xs.length
  · rw [Nat.min_eq_left h, List.take_of_length_le (by simp)]
  · rw [Nat.min_eq_right (by omega), List.drop_of_length_le (by omega), List.drop_of_length_le (by omega)]; simp
theorem cut_to {α : Type} (xs : List α) (n : Nat) : cut xs none (some (n : Int)) = xs.take n := by
  unfold cut cutIx
  simp only
  rw [if_neg (by omega)]
  simp only [Int.toNat_natCast, List.drop_zero, Nat.sub_zero]
  by_cases h : n ≤ xs.length
  · rw [Nat.min_eq_left h]
  · rw [Nat.min_eq_right (by omega), List.take_of_length_le (by omega), List.take_of_length_le (by omega)]
theorem cut_last {α : Type} (xs : List α) (n : Nat) (h : 0 < n) (hn : n ≤ xs.length) : cut xs (some (-(n : Int))) none = xs.drop (xs.length - n) := by
  unfold cut cutIx
  simp only
  rw [if_pos (by omega)]
  have : (-(n : Int) + xs.length).toNat = xs.length - n := by omega
  simp only [this]
  rw [List.take_of_length_le (by simp)]
@[simp] theorem items_list (xs : List Dt) : itemsD (.list xs) = some xs := (rfl)
@[simp] theorem items_tuple (xs : List Dt) : itemsD (.tuple xs) = some xs := (rfl)
@[simp] theorem items_dict (kvs : List (Dt × Dt)) : itemsD (.dict kvs) = some (kvs.map (·.1)) := (rfl)
@[simp] theorem seq_list (xs : List Dt) : seqD (.list xs) = some xs := (rfl)
@[simp] theorem seq_tuple (xs : List Dt) : seqD (.tuple xs) = some xs := (rfl)
@[simp] theorem len_list (xs : List Dt) : b1D .len (.list xs) = some (.int xs.length) := (rfl)
@[simp] theorem len_tuple (xs : List Dt) : b1D .len (.tuple xs) = some (.int xs.length) := (rfl)
@[simp] theorem len_dict (xs : List (Dt × Dt)) : b1D .len (.dict xs) = some (.int xs.length) := (rfl)
@[simp] theorem all_list (xs : List Dt) : b1D .all (.list xs) = (boolsOf xs).map fun bs => .bool (bs.all id) := (rfl)
@[simp] theorem any_list (xs : List Dt) : b1D .any (.list xs) = (boolsOf xs).map fun bs => .bool (bs.any id) := (rfl)
@[simp] theorem sum_list (xs : List Dt) : b1D .sum (.list xs) = (intsOf xs).map fun ns => .int ns.sum := (rfl)
@[simp] theorem abs_int (i : Int) : b1D .abs (.int i) = some (.int (if i < 0 then -i else i)) := (rfl)
@[simp] theorem int_int (i : Int) : b1D .int (.int i) = some (.int i) := (rfl)
@[simp] theorem list_list (xs : List Dt) : b1D .list (.list xs) = some (.list xs) := (rfl)
@[simp] theorem list_tuple (xs : List Dt) : b1D .list (.tuple xs) = some (.list xs) := (rfl)
@[simp] theorem list_dict (kvs : List (Dt × Dt)) : b1D .list (.dict kvs) = some (.list (kvs.map (·.1))) := (rfl)
@[simp] theorem tuple_list (xs : List Dt) : b1D .tuple (.list xs) = some (.tuple xs) := (rfl)
@[simp] theorem tuple_tuple (xs : List Dt) : b1D .tuple (.tuple xs) = some (.tuple xs) := (rfl)
theorem dict_list (xs : List Dt) : b1D .dict (.list xs) = ((pairsOf xs).bind fun ps => dputAll [] ps).map .dict := (rfl)
@[simp] theorem sorted_list (xs : List Dt) : b1D .sorted (.list xs) = (sortD xs).map .list := (rfl)
@[simp] theorem sorted_tuple (xs : List Dt) : b1D .sorted (.tuple xs) = (sortD xs).map .list := (rfl)
@[simp] theorem sorted_dict (kvs : List (Dt × Dt)) : b1D .sorted (.dict kvs) = (sortD (kvs.map (·.1))).map .list := (rfl)
@[simp] theorem max_list (xs : List Dt) : b1D .max (.list xs) = ((intsOf xs).bind greatest).map .int := (rfl)
@[simp] theorem min_list (xs : List Dt) : b1D .min (.list xs) = ((intsOf xs).bind least).map .int := (rfl)
@[simp] theorem lenset_list (xs : List Dt) : b1D .lenset (.list xs) = (intsOf xs).bind fun ns => if decide (ns.length ≤ 1000) then some (.int (usort ns).length) else none := (rfl)
@[simp] theorem lenset_tuple (xs : List Dt) : b1D .lenset (.tuple xs) = (intsOf xs).bind fun ns => if decide (ns.length ≤ 1000) then some (.int (usort ns).length) else none := (rfl)
@[simp] theorem sortset_list (xs : List Dt) : b1D .sortset (.list xs) = (intsOf xs).bind fun ns => if decide (ns.length < 64) then some (.list ((usort ns).map .int)) else none := (rfl)
@[simp] theorem sortset_tuple (xs : List Dt) : b1D .sortset (.tuple xs) = (intsOf xs).bind fun ns => if decide (ns.length < 64) then some (.list ((usort ns).map .int)) else none := (rfl)
@[simp] theorem listvals_dict (kvs : List (Dt × Dt)) : b1D .listvals (.dict kvs) = some (.list (kvs.map (·.2))) := (rfl)
@[simp] theorem sumvals_dict (kvs : List (Dt × Dt)) : b1D .sumvals (.dict kvs) = (intsOf (kvs.map (·.2))).map fun ns => .int ns.sum := (rfl)
@[simp] theorem sortedvals_dict (kvs : List (Dt × Dt)) : b1D .sortedvals (.dict kvs) = (sortD (kvs.map (·.2))).map .list := (rfl)
@[simp] theorem listitems_dict (kvs : List (Dt × Dt)) : b1D .listitems (.dict kvs) = some (.list (kvs.map fun p => .tuple [p.1, p.2])) := (rfl)
@[simp] theorem min_int (i j : Int) : b2D .min (.int i) (.int j) = some (.int (if j < i then j else i)) := (rfl)
@[simp] theorem max_int (i j : Int) : b2D .max (.int i) (.int j) = some (.int (if j > i then j else i)) := (rfl)
@[simp] theorem gcd_int (i j : Int) : b2D .gcd (.int i) (.int j) = some (.int (Nat.gcd i.natAbs j.natAbs : Nat)) := (rfl)
theorem boolsOf_map {α : Type} (f : α → Bool) (l : List α) : boolsOf (l.map fun x => .bool (f x)) = some (l.map f) := by
  induction l with
  | nil => rfl
  | cons x l ih => simp [boolsOf, ih]
theorem intsOf_map {α : Type} (f : α → Int) (l : List α) : intsOf (l.map fun x => .int (f x)) = some (l.map f) := by
  induction l with
  | nil => rfl
  | cons x l ih => simp [intsOf, ih]
/-- all of a list -/
theorem all_map {α : Type} (f : α → Bool) (l : List α) : b1D .all (.list (l.map fun x => .bool (f x))) = some (.bool (l.all f)) := by
  simp [boolsOf_map, List.all_map]
theorem all_true {α : Type} (f : α → Bool) (l : List α) (h : ∀ x ∈ l, f x = true) : b1D .all (.list (l.map fun x => .bool (f x))) = some (.bool true) := by
  rw [all_map, List.all_eq_true.mpr h]
theorem sum_map {α : Type} (f : α → Int) (l : List α) : b1D .sum (.list (l.map fun x => .int (f x))) = some (.int (l.map f).sum) := by
  simp [intsOf_map]
theorem fits_of {n : Nat} (h : n ≤ 16777216) : fits n = true := by
  unfold fits; exact decide_eq_true (by rw [sl]; exact h)
theorem fits_k {n : Nat} (h : n ≤ 1000) : fits n = true := fits_of (Nat.le_trans h (by decide))
theorem rng_k {n : Nat} (h : n ≤ 1000) : rngV (.int 0) (.int n) = ret ((List.range n).map fun i => .d (.int (i : Nat)), []) := rng0 (Nat.le_trans h (by decide))
@[simp] theorem all_tt {α : Type} (l : List α) : (l.all fun _ => true) = true := by induction l <;> simp_all
theorem memD_iff {x : Dt} {xs : List Dt} : memD x xs = true ↔ ∃ y ∈ xs, PyData.eqv y x = true := by simp [memD]
/-! ### objects of the store -/
section
variable {st : Sto} {n m : Nat} {xs ys : List Dt} {kvs : List (Dt × Dt)}
theorem wp_dat_lst {Q : Dt → Sto → Prop} (h : st[n]? = some (.lst xs)) : wp (dat (.ref n)) Q st = Q (.list xs) st := by simp only [wp, dat, look, h, Option.bind_some, Cell.dat]
theorem wp_dat2_lst {Q : Dt → Sto → Prop} (h : st[n]? = some (.lst xs)) : wp (dat2 (.ref n)) Q st = Q (.list xs) st := by simp only [wp, dat2, look2, h, Option.bind_some, Cell.dat2, Cell.dat]
theorem wp_dat_kl {Q : Dt → Sto → Prop} (h : st[n]? = some (.kl xs)) : wp (dat (.ref n)) Q st = Q (.list xs) st := by simp only [wp, dat, look, h, Option.bind_some, Cell.dat]
theorem wp_dat_dct {Q : Dt → Sto → Prop} (h : st[n]? = some (.dct kvs)) : wp (dat (.ref n)) Q st = Q (.dict kvs) st := by simp only [wp, dat, look, h, Option.bind_some, Cell.dat]
theorem wp_idx_lst {Q : Val → Sto → Prop} {i : Dt} (h : st[n]? = some (.lst xs)) : wp (idxV (.ref n) (.d i)) Q st = wp (opt (idxD (.list xs) i)) (fun y s => Q (.d y) s) st := by
  simp only [wp, idxV, h, opt]; cases idxD (.list xs) i <;> rfl
theorem wp_idx_dct {Q : Val → Sto → Prop} {i : Dt} (h : st[n]? = some (.dct kvs)) : wp (idxV (.ref n) (.d i)) Q st = wp (opt (idxD (.dict kvs) i)) (fun y s => Q (.d y) s) st := by
  simp only [wp, idxV, h, opt]; cases idxD (.dict kvs) i <;> rfl
theorem wp_mtK {Q : Unit → Sto → Prop} (h : st[n]? = some (.lst xs)) : wp (mtK (.ref n)) Q st = Q () st := by simp only [wp, mtK, h]
theorem wp_append {Q : Val → Sto → Prop} {y : Dt} (h : st[n]? = some (.lst xs)) (hl : xs.length < 16777216) : wp (mtV .append (.ref n) [.d y]) Q st = Q (.d .none) (st.set n (.lst (xs ++ [y]))) := by
  have := sl
  simp only [wp, mtV, mtApp, h, this, hl, if_true]
theorem wp_extend {Q : Val → Sto → Prop} (h : st[n]? = some (.lst xs)) (h' : st[m]? = some (.lst ys)) (hl : xs.length + ys.length ≤ 16777216) : wp (mtV .extend (.ref n) [.ref m]) Q st = Q (.d .none) (st.set n (.lst (xs ++ ys))) := by
  simp only [wp, mtV, mtExt, h, h', fits_of hl, if_true]
theorem wp_pop {Q : Val → Sto → Prop} {y : Dt} (h : st[n]? = some (.lst (xs ++ [y]))) : wp (mtV .pop (.ref n) []) Q st = Q (.d y) (st.set n (.lst xs)) := by
  simp [wp, mtV, mtPop, h]
theorem wp_popAt {Q : Val → Sto → Prop} {y : Dt} {i : Nat} (h : st[n]? = some (.lst xs)) (hy : xs[i]? = some y) : wp (mtV .popAt (.ref n) [.d (.int i)]) Q st = Q (.d y) (st.set n (.lst (xs.eraseIdx i))) := by
  have hi : i < xs.length := (List.getElem?_eq_some_iff.mp hy).1
  have e : ixOf xs.length i = some i := by unfold ixOf; rw [if_pos (by omega), if_pos (by omega)]; simp
  simp only [wp, mtV, mtPopAt, h, e, hy]
theorem wp_list1 {Q : Val → Sto → Prop} {vs : List Val} (h : datas vs = some xs) : wp (mkList 1 vs) Q st = Q (.ref st.length) (st ++ [.lst xs]) := by simp only [wp, mkList, h]
@[simp] theorem wp_fresh1 {Q : Val → Sto → Prop} : wp (fresh 1 (.list xs)) Q st = Q (.ref st.length) (st ++ [.lst xs]) := by unfold wp; rfl
@[simp] theorem wp_fresh1d {Q : Val → Sto → Prop} : wp (fresh 1 (.dict kvs)) Q st = Q (.ref st.length) (st ++ [.dct kvs]) := by unfold wp; rfl
@[simp] theorem wp_list1_nil {Q : Val → Sto → Prop} : wp (mkList 1 []) Q st = Q (.ref st.length) (st ++ [.lst []]) := by unfold wp; rfl
theorem wp_freeze_lst {Q : Val → Sto → Prop} (h : st[n]? = some (.lst xs)) : wp (freeze (.ref n)) Q st = Q (.d (.list xs)) (st.set n (.fz (.list xs))) := by simp only [wp, freeze, h, Option.bind_some, Cell.dat2, Cell.dat]
theorem wp_freeze_dct {Q : Val → Sto → Prop} (h : st[n]? = some (.dct kvs)) : wp (freeze (.ref n)) Q st = Q (.d (.dict kvs)) (st.set n (.fz (.dict kvs))) := by simp only [wp, freeze, h, Option.bind_some, Cell.dat2, Cell.dat]
theorem wp_put_dct {Q : Unit → Sto → Prop} {k v : Dt} {kvs' : List (Dt × Dt)} (h : st[n]? = some (.dct kvs)) (hp : dputs kvs k v = some kvs') : wp (putV (.ref n) (.d k) (.d v)) Q st = Q () (st.set n (.dct kvs')) := by simp only [wp, putV, h, hp]
theorem wp_put_lst {Q : Unit → Sto → Prop} {i : Nat} {v : Dt} (h : st[n]? = some (.lst xs)) (hp : i < xs.length) : wp (putV (.ref n) (.d (.int i)) (.d v)) Q st = Q () (st.set n (.lst (xs.set i v))) := by
  have e : ixOf xs.length i = some i := by unfold ixOf; rw [if_pos (by omega), if_pos (by omega)]; simp
  simp only [wp, putV, h, e]
theorem wp_items_lst {Q : List Val × List Nat → Sto → Prop} (h : st[n]? = some (.lst xs)) : wp (itemsV (.ref n)) Q st = Q (xs.map .d, [n]) st := by simp only [wp, itemsV, h]
theorem wp_items_kl {Q : List Val × List Nat → Sto → Prop} (h : st[n]? = some (.kl xs)) : wp (itemsV (.ref n)) Q st = Q (xs.map .d, []) st := by simp only [wp, itemsV, h]
theorem wp_items_dct {Q : List Val × List Nat → Sto → Prop} (h : st[n]? = some (.dct kvs)) : wp (itemsV (.ref n)) Q st = Q (kvs.map fun p => .d p.1, []) (st.set n (.fz (.dict kvs))) := by simp only [wp, itemsV, h]
end
@[simp] theorem wp_opt_some {α : Type} (a : α) (Q : α → Sto → Prop) (st : Sto) : wp (opt (some a)) Q st = Q a st := by unfold wp; rfl
/-- a comparison with objects -/
theorem wp_cmpV {o : CmpOp} {v w : Val} {Q : Val → Sto → Prop} {st : Sto} : wp (cmpV o v w) Q st = wp (dat v) (fun x s => wp (dat w) (fun y s => wp (opt (cmpD o x y)) (fun b s => Q (.d (.bool b)) s) s) s) st := by
  unfold cmpV; simp only [wp_bnd, wp_ret, bv_eq]
theorem shaped_ints (l : List Int) : shaped (.list (l.map .int)) = true := by
  rw [shaped_lst]
  have h1 : ∀ l : List Int, PyData.canLayAll0 (l.map .int) = true := by
    intro l; induction l with
    | nil => rfl
    | cons x l ih => simp only [List.map_cons, PyData.canLayAll0, PyData.canLay0, ih, Bool.and_self]
  have h2 : ∀ l : List Int, PyData.depthAll (l.map .int) = 0 := by
    intro l; induction l with
    | nil => rfl
    | cons x l ih => simp only [List.map_cons, PyData.depthAll, PyData.depth, ih, Nat.max_self]
  rw [h1, h2]; rfl
/-- a turn with a comprehension within -/
theorem turn2_ok {δ : Type} {C : Ctx} {n : Nat} {t t1 : T} {own own1 gs : List Nat} {c c1 : Es} {it1 : Ir} {elt : E} {ρ ρ' : Env} {x : Val} {xs : List δ} {enc : δ → Val} (g : δ → List Dt)
    (hb : bind1 t x (wipeE ρ own) = ret ρ') (hc : evc C c ρ' = ret true) (hi : evi C it1 ρ' = ret (xs.map enc, gs)) (hf : n * xs.length ≤ 1000) (hs : ∀ y ∈ xs, turn1 C t1 own1 c1 elt ρ' (enc y) = ret (g y)) :
    turn2 C n t own c t1 it1 c1 own1 elt ρ x = ret (xs.flatMap g) := by
  unfold turn2
  rw [hb, bnd_ret, hc, bnd_ret, if_pos rfl, hi, bnd_ret, if_neg (by rw [List.length_map, fits_k hf]; decide)]
  funext st
  exact lcL_pure hs
end EV.Sp
end

section
set_option autoImplicit false
set_option linter.all false
set_option maxRecDepth 100000
set_option exponentiation.threshold 10000
/-! SpR: ratios. -/
namespace EV.Sp
open PySem
/-- a ratio -/
def R (q : Rat) : Dt := .tuple [.int q.num, .int (q.den : Nat)]
/-- a tuple of wholes -/
def Nt (ns : List Nat) : Dt := .tuple (ns.map fun n => .int (n : Nat))
/-! ### facts of data -/
@[simp] theorem shaped_R (q : Rat) : shaped (R q) = true := by unfold R; rw [shaped_tup]; rfl
@[simp] theorem idxR0 (q : Rat) : idxD (R q) (.int 0) = some (.int q.num) := (rfl)
@[simp] theorem idxR1 (q : Rat) : idxD (R q) (.int 1) = some (.int (q.den : Nat)) := (rfl)
theorem eqvAll_ints {as bs : List Int} : PyData.eqvAll (as.map .int) (bs.map .int) = decide (as = bs) := by
  induction as generalizing bs with
  | nil => cases bs <;> simp [PyData.eqvAll]
  | cons a as ih => cases bs with
    | nil => simp [PyData.eqvAll]
    | cons b bs => simp [PyData.eqvAll, PyData.eqv, ih]; by_cases h : a = b <;> by_cases h' : as = bs <;> simp [h, h']
@[simp] theorem eqv_R (a b : Rat) : PyData.eqv (R a) (R b) = decide (a = b) := by
  simp only [R, PyData.eqv, PyData.eqvAll, Bool.and_true]
  by_cases h : a = b
  · simp [h]
  · have : ¬(a.num = b.num ∧ a.den = b.den) := fun k => h (Rat.ext k.1 k.2)
    by_cases h1 : a.num = b.num
    · have h2 : a.den ≠ b.den := fun k => this ⟨h1, k⟩
      simp [h, h1]; omega
    · simp [h, h1]
@[simp] theorem eqv_Nt (a b : List Nat) : PyData.eqv (Nt a) (Nt b) = decide (a = b) := by
  have e : ∀ l : List Nat, (l.map fun n => (PyData.int (n : Nat))) = (l.map fun n : Nat => (n : Int)).map PyData.int := fun l => by simp
  simp only [Nt, PyData.eqv, e, eqvAll_ints]
  by_cases h : a = b
  · simp [h]
  · have : ¬(List.map (fun n : Nat => (n : Int)) a = List.map (fun n : Nat => (n : Int)) b) := fun k => h (by
      have := congrArg (List.map Int.toNat) k
      have e2 : (Int.toNat ∘ fun n : Nat => (n : Int)) = id := by funext n; simp
      simpa [e2] using this)
    simp [h, this]
theorem canLayAll_map {α : Type} {f : α → Dt} {l : List α} (h : ∀ x ∈ l, (f x).canLay0 = true) : PyData.canLayAll0 (l.map f) = true := by
  induction l with
  | nil => rfl
  | cons x l ih => simp only [List.map_cons, PyData.canLayAll0, h x List.mem_cons_self, ih fun y hy => h y (List.mem_cons_of_mem _ hy), Bool.and_self]
theorem depthAll_map {α : Type} {f : α → Dt} {l : List α} {n : Nat} (h : ∀ x ∈ l, (f x).depth ≤ n) : PyData.depthAll (l.map f) ≤ n := by
  induction l with
  | nil => exact Nat.zero_le _
  | cons x l ih =>
    simp only [List.map_cons, PyData.depthAll]
    exact Nat.max_le.mpr ⟨h x List.mem_cons_self, ih fun y hy => h y (List.mem_cons_of_mem _ hy)⟩
theorem shaped_tuple {α : Type} {f : α → Dt} {l : List α} (n : Nat) (hn : n + 1 ≤ 64) (h : ∀ x ∈ l, (f x).canLay0 = true ∧ (f x).depth ≤ n) : shaped (.tuple (l.map f)) = true := by
  rw [shaped_iff]
  have := depthAll_map (n := n) fun x hx => (h x hx).2
  simp only [PyData.canLay0, canLayAll_map fun x hx => (h x hx).1, Bool.true_and, decide_eq_true_eq, PyData.depth]
  exact decide_eq_true (Nat.le_trans (Nat.succ_le_succ this) hn)
theorem shaped_list {α : Type} {f : α → Dt} {l : List α} (n : Nat) (hn : n + 1 ≤ 64) (h : ∀ x ∈ l, (f x).canLay0 = true ∧ (f x).depth ≤ n) : shaped (.list (l.map f)) = true := by
  rw [shaped_iff]
  have := depthAll_map (n := n) fun x hx => (h x hx).2
  simp only [PyData.canLay0, canLayAll_map fun x hx => (h x hx).1, Bool.true_and, decide_eq_true_eq, PyData.depth]
  exact decide_eq_true (Nat.le_trans (Nat.succ_le_succ this) hn)
@[simp] theorem shaped_Nt (a : List Nat) : shaped (Nt a) = true := shaped_tuple 1 (by decide) fun x _ => ⟨rfl, by simp [PyData.depth]⟩
/-! ### sizes -/
theorem bits_le {a : Int} {k : Nat} (h : a.natAbs < 2 ^ k) : Builtin.Int.intBits a ≤ k := by
  unfold Builtin.Int.intBits
  split
  · exact Nat.zero_le _
  · rename_i h0
    have : a.natAbs ≠ 0 := fun z => h0 (by simp [Int.natAbs_eq_zero.mp z])
    exact (Nat.log2_lt this).mpr h
theorem mulOk_of {a b : Int} {j k : Nat} (ha : a.natAbs < 2 ^ j) (hb : b.natAbs < 2 ^ k) (h : j + k ≤ 2 ^ 27) : mulOk a b = true := by
  unfold mulOk
  have h1 := bits_le ha
  have h2 := bits_le hb
  have : Builtin.Int.intTooBig ((Builtin.Int.intBits a : Int) + (Builtin.Int.intBits b : Int)) = false := by
    unfold Builtin.Int.intTooBig
    have : bitsLine = 2 ^ 27 := rfl
    simp only [decide_eq_false_iff_not, this]
    omega
  rw [this]; simp
theorem mulOk_left {a b : Int} (ha : a.natAbs < 2 ^ 64) : mulOk a b = true := by
  unfold mulOk
  have h1 := bits_le ha
  have : shortFactorBits = 64 := rfl
  have : ¬(Builtin.Int.intBits a > shortFactorBits) := by omega
  simp [this]
theorem mulOk_right {a b : Int} (hb : b.natAbs < 2 ^ 64) : mulOk a b = true := by
  unfold mulOk
  have h1 := bits_le hb
  have : shortFactorBits = 64 := rfl
  have : ¬(Builtin.Int.intBits b > shortFactorBits) := by omega
  simp [this]
theorem divOk {x y : Int} (h : y.natAbs < 2 ^ 9000) : Builtin.divisionGoesByPylong x y = false := by
  have key : (if y == 0 then 0 else y.natAbs.log2 / 30 + 1) ≤ 300 := by
    split
    · decide
    · rename_i h0
      have : y.natAbs ≠ 0 := fun z => h0 (by simp [Int.natAbs_eq_zero.mp z])
      have := (Nat.log2_lt this).mpr h
      omega
  unfold Builtin.divisionGoesByPylong
  have : ¬((if y == 0 then 0 else y.natAbs.log2 / 30 + 1) > 300) := by omega
  simp only [this, decide_false, Bool.false_and]
/-- no number above 2 to the B -/
def Sm (B : Nat) (q : Rat) : Prop := q.num.natAbs < 2 ^ B ∧ q.den < 2 ^ B
theorem Sm.mono {B C : Nat} {q : Rat} (h : Sm B q) (l : B ≤ C) : Sm C q := ⟨Nat.lt_of_lt_of_le h.1 (Nat.pow_le_pow_right (by decide) l), Nat.lt_of_lt_of_le h.2 (Nat.pow_le_pow_right (by decide) l)⟩
theorem Sm_divInt {n d : Int} {B : Nat} (hn : n.natAbs < 2 ^ B) (hd : d.natAbs < 2 ^ B) (h0 : d ≠ 0) : Sm B (Rat.divInt n d) := by
  constructor
  · rw [Rat.num_divInt]
    refine Nat.lt_of_le_of_lt (m := n.natAbs) ?_ hn
    have hg : (d.gcd n : Int) ∣ d.sign * n := Int.dvd_trans (Int.gcd_dvd_right ..) (Int.dvd_mul_left ..)
    have hg0 : 0 < d.gcd n := Int.gcd_pos_of_ne_zero_left _ h0
    obtain ⟨c, hc⟩ := hg
    rw [hc, Int.mul_ediv_cancel_left _ (by omega)]
    have : (d.sign * n).natAbs = n.natAbs := by rw [Int.natAbs_mul, Int.natAbs_sign_of_ne_zero h0, Nat.one_mul]
    rw [← this, hc, Int.natAbs_mul]
    exact Nat.le_mul_of_pos_left _ (by simpa using hg0)
  · rw [Rat.den_divInt, if_neg h0]
    exact Nat.lt_of_le_of_lt (Nat.div_le_self _ _) hd
theorem R_divInt {n d : Int} (h : d ≠ 0) : R (Rat.divInt n d) = .tuple [.int (d.sign * n / (d.gcd n : Nat)), .int (d.natAbs / d.gcd n : Nat)] := by
  unfold R; rw [Rat.num_divInt, Rat.den_divInt, if_neg h]
/-! ### lowest -/
/-- lowest(n, d): 0 n 1 d 2 common -/
def b_lowest : Ss :=
 (.cons (.asg (.nm 2) (.ife (.cmp .Gt (.var 1) (.con (.int 0))) (.b2 .gcd (.var 0) (.var 1)) (.neg (.b2 .gcd (.var 0) (.var 1)))))
 (.cons (.ret (.tup (.cons (.bin .FloorDiv (.var 0) (.var 2)) (.cons (.bin .FloorDiv (.var 1) (.var 2)) .nil))))
 .nil))
noncomputable def c_lowest : Ctx := ⟨[], []⟩
noncomputable def f_lowest : Fn := den c_lowest 2 3 false b_lowest
/-- over(one, other): 0 one 1 other -/
def b_over : Ss :=
 (.cons (.ret (.call 0 (.cons (.bin .Mult (.idx (.var 0) (.con (.int 0))) (.idx (.var 1) (.con (.int 1)))) (.cons (.bin .Mult (.idx (.var 0) (.con (.int 1))) (.idx (.var 1) (.con (.int 0)))) .nil))))
 .nil)
noncomputable def c_over : Ctx := ⟨[("lowest", f_lowest)], []⟩
noncomputable def f_over : Fn := den c_over 2 2 false b_over
/-- plus(one, other): 0 one 1 other -/
def b_plus : Ss :=
 (.cons (.ret (.call 0 (.cons (.bin .Add (.bin .Mult (.idx (.var 0) (.con (.int 0))) (.idx (.var 1) (.con (.int 1)))) (.bin .Mult (.idx (.var 1) (.con (.int 0))) (.idx (.var 0) (.con (.int 1))))) (.cons (.bin .Mult (.idx (.var 0) (.con (.int 1))) (.idx (.var 1) (.con (.int 1)))) .nil))))
 .nil)
noncomputable def c_plus : Ctx := ⟨[("lowest", f_lowest)], []⟩
noncomputable def f_plus : Fn := den c_plus 2 2 false b_plus
/-- total(ratios): 0 ratios 1 found 2 each -/
def b_total : Ss :=
 (.cons (.asg (.nm 1) (.glb 0))
 (.cons (.for_ (.nm 2) (.val (.var 0))
 (.cons (.asg (.nm 1) (.call 0 (.cons (.var 1) (.cons (.var 2) .nil))))
 .nil))
 (.cons (.ret (.var 1))
 .nil)))
noncomputable def c_total : Ctx := ⟨[("plus", f_plus)], [("ZERO", (.tuple [(.int 0), (.int 1)]))]⟩
noncomputable def f_total : Fn := den c_total 1 3 false b_total
theorem s_lowest {n d : Int} (h : d ≠ 0) (hd : d.natAbs < 2 ^ 9000) : f_lowest [.d (.int n), .d (.int d)] = ret (.d (R (Rat.divInt n d))) := by
  have g0 : Nat.gcd n.natAbs d.natAbs ≠ 0 := fun z => h (Int.natAbs_eq_zero.mp (Nat.gcd_eq_zero_iff.mp z).2)
  have gl : (Nat.gcd n.natAbs d.natAbs) < 2 ^ 9000 := Nat.lt_of_le_of_lt (Nat.le_of_dvd (by omega) (Nat.gcd_dvd_right _ _)) hd
  have dg : d.gcd n = Nat.gcd n.natAbs d.natAbs := by simp only [Int.gcd]; rw [Nat.gcd_comm]
  obtain ⟨p, hp⟩ : ((Nat.gcd n.natAbs d.natAbs : Nat) : Int) ∣ n := Int.ofNat_dvd_left.mpr (Nat.gcd_dvd_left _ _)
  obtain ⟨q, hq⟩ : ((Nat.gcd n.natAbs d.natAbs : Nat) : Int) ∣ d := Int.ofNat_dvd_left.mpr (Nat.gcd_dvd_right _ _)
  rw [R_divInt h, dg]
  generalize hg : Nat.gcd n.natAbs d.natAbs = g at *
  have gz : (g : Int) ≠ 0 := by omega
  refine den_ret rfl rfl (ρ' := [some (.d (.int n)), some (.d (.int d)), some (.d (.int (if 0 < d then (g : Int) else -g)))]) ?_
  by_cases hd0 : 0 < d
  · have e1 : n.fdiv g = n / g := Int.fdiv_eq_ediv_of_nonneg _ (by omega)
    have e2 : d.fdiv g = d / g := Int.fdiv_eq_ediv_of_nonneg _ (by omega)
    have e3 : (d.natAbs / g : Nat) = d / g := by rw [Int.natCast_ediv, Int.natAbs_of_nonneg (by omega)]
    simp [b_lowest, hd0, hg, gz, g0, divOk (y := g) (by simpa using gl), e1, e2, Int.sign_eq_one_of_pos hd0, e3]
  · have hdn : d < 0 := by omega
    have e1 : n.fdiv (-g) = -n / g := by
      rw [hp, Int.fdiv_eq_ediv_of_dvd (Int.neg_dvd.mpr (Int.dvd_mul_right _ _)), Int.ediv_neg, Int.mul_ediv_cancel_left _ gz, Int.neg_mul_eq_mul_neg, Int.mul_ediv_cancel_left _ gz]
    have e2 : d.fdiv (-g) = -d / g := by
      rw [hq, Int.fdiv_eq_ediv_of_dvd (Int.neg_dvd.mpr (Int.dvd_mul_right _ _)), Int.ediv_neg, Int.mul_ediv_cancel_left _ gz, Int.neg_mul_eq_mul_neg, Int.mul_ediv_cancel_left _ gz]
    have e3 : (d.natAbs / g : Nat) = -d / g := by rw [Int.natCast_ediv]; congr 1; omega
    simp [b_lowest, hd0, hg, gz, g0, divOk (y := -g) (by simpa using gl), e1, e2, Int.sign_eq_neg_one_of_neg hdn, e3]
theorem Sm.num {B : Nat} {q : Rat} (h : Sm B q) : q.num.natAbs < 2 ^ B := h.1
theorem Sm.den {B : Nat} {q : Rat} (h : Sm B q) : ((q.den : Nat) : Int).natAbs < 2 ^ B := by simpa using h.2
theorem den0 (q : Rat) : ((q.den : Nat) : Int) ≠ 0 := by have := q.den_nz; omega
theorem num_div (q : Rat) : ((q.num : Int) : Rat) / ((q.den : Nat) : Int) = q := by
  rw [← Rat.divInt_eq_div]; exact Rat.num_divInt_den q
theorem natAbs_mul_lt {a b : Int} {j k l : Nat} (ha : a.natAbs < 2 ^ j) (hb : b.natAbs < 2 ^ k) (h : j + k ≤ l) : (a * b).natAbs < 2 ^ l := by
  rw [Int.natAbs_mul]
  refine Nat.lt_of_lt_of_le (Nat.mul_lt_mul'' ha hb) ?_
  rw [← Nat.pow_add]
  exact Nat.pow_le_pow_right (by decide) h
theorem s_plus {a b : Rat} (ha : Sm 4000 a) (hb : Sm 4000 b) : f_plus [.d (R a), .d (R b)] = ret (.d (R (a + b))) := by
  have e : a + b = Rat.divInt (a.num * b.den + b.num * a.den) (a.den * b.den) := by
    rw [Rat.add_def', ← Rat.divInt_ofNat, Int.natCast_mul]
  have hd : ((a.den : Int) * (b.den : Int)).natAbs < 2 ^ 9000 := natAbs_mul_lt ha.den hb.den (by decide)
  refine den_ret rfl rfl (ρ' := [some (.d (R a)), some (.d (R b))]) ?_
  simp [b_plus, c_plus, mulOk_of ha.num hb.den (by decide), mulOk_of hb.num ha.den (by decide), mulOk_of ha.den hb.den (by decide), s_lowest (Int.mul_ne_zero (den0 a) (den0 b)) hd, e]
theorem div_eq_divInt (a b : Rat) : a / b = Rat.divInt (a.num * b.den) (a.den * b.num) := by
  rw [Rat.divInt_eq_div, Rat.intCast_mul, Rat.intCast_mul]
  have h1 := num_div a
  have h2 := num_div b
  have d1 : ((a.den : Int) : Rat) ≠ 0 := by have := a.den_nz; simpa using this
  have d2 : ((b.den : Int) : Rat) ≠ 0 := by have := b.den_nz; simpa using this
  conv => lhs; rw [← h1, ← h2]
  grind
theorem s_over {a b : Rat} (ha : Sm 4000 a) (hb : Sm 4000 b) (h0 : b ≠ 0) : f_over [.d (R a), .d (R b)] = ret (.d (R (a / b))) := by
  have hn : b.num ≠ 0 := fun z => h0 (Rat.num_eq_zero.mp z)
  have hd : ((a.den : Int) * b.num).natAbs < 2 ^ 9000 := natAbs_mul_lt ha.den hb.num (by decide)
  refine den_ret rfl rfl (ρ' := [some (.d (R a)), some (.d (R b))]) ?_
  simp [b_over, c_over, mulOk_of ha.num hb.den (by decide), mulOk_of ha.den hb.num (by decide), s_lowest (Int.mul_ne_zero (den0 a) hn) hd, div_eq_divInt]
/-! ### sums -/
theorem foldl_add (xs : List Rat) (a : Rat) : xs.foldl (· + ·) a = a + xs.sum := by
  induction xs generalizing a with
  | nil => simp [Rat.add_zero]
  | cons x xs ih => simp only [List.foldl_cons, ih, List.sum_cons, Rat.add_assoc]
theorem sum_append (xs ys : List Rat) : (xs ++ ys).sum = xs.sum + ys.sum := by
  induction xs with
  | nil => simp [Rat.zero_add]
  | cons x xs ih => simp only [List.cons_append, List.sum_cons, ih, Rat.add_assoc]
/-- all sums on the way are small -/
def Sms (xs : List Rat) : Prop := ∀ pre x post, xs = pre ++ x :: post → Sm 4000 pre.sum ∧ Sm 4000 x
theorem R0 : (.tuple [.int 0, .int 1] : Dt) = R 0 := (rfl)
theorem R1 : (.tuple [.int 1, .int 1] : Dt) = R 1 := (rfl)
theorem s_total {xs : List Rat} (h : Sms xs) : f_total [.d (.list (xs.map R))] = ret (.d (R xs.sum)) := by
  refine den_ev rfl rfl fun st => ?_
  have e3 : List.map Val.d (List.map R xs) = xs.map fun x => Val.d (R x) := by rw [List.map_map]; rfl
  simp [b_total, c_total, e3, R0]
  refine wp_floop (fun rest ρ s => s = st ∧ ∃ pre w, xs = pre ++ rest ∧ ρ = [some (.d (.list (xs.map R))), some (.d (R pre.sum)), w]) ⟨rfl, [], none, rfl, by simp⟩ ?_ ?_
  · rintro x rest _ _ ⟨rfl, pre, w, e, rfl⟩
    obtain ⟨h1, h2⟩ := h pre x rest e
    refine ⟨fun _ _ => rfl, ?_⟩
    simp [s_plus h1 h2, e, sum_append, Rat.add_zero]
    exact ⟨pre ++ [x], by simp, by simp [sum_append, Rat.add_zero]⟩
  · rintro _ _ ⟨rfl, pre, w, e, rfl⟩
    rw [List.append_nil] at e
    subst e
    exact ⟨fun _ _ => rfl, by simp⟩
/-- n parts of D -/
def Fr (D : Nat) (x : Rat) : Prop := ∃ n : Nat, x = (n : Rat) / (D : Rat)
theorem Fr.zero (D : Nat) : Fr D 0 := ⟨0, by grind⟩
theorem Fr.add {D : Nat} {x y : Rat} (h0 : D ≠ 0) (hx : Fr D x) (hy : Fr D y) : Fr D (x + y) := by
  obtain ⟨n, rfl⟩ := hx
  obtain ⟨m, rfl⟩ := hy
  have : (D : Rat) ≠ 0 := by simpa using h0
  exact ⟨n + m, by rw [Rat.natCast_add]; grind⟩
theorem Fr.sum {D : Nat} (h0 : D ≠ 0) : ∀ {xs : List Rat}, (∀ x ∈ xs, Fr D x) → Fr D xs.sum
  | [], _ => Fr.zero D
  | x :: xs, h => by
    rw [List.sum_cons]
    exact (h x List.mem_cons_self).add h0 (Fr.sum h0 fun y hy => h y (List.mem_cons_of_mem _ hy))
theorem Fr.nonneg {D : Nat} {x : Rat} (hx : Fr D x) : 0 ≤ x := by
  obtain ⟨n, rfl⟩ := hx
  have e : (n : Rat) / (D : Rat) = Rat.divInt (n : Int) (D : Int) := by rw [Rat.divInt_eq_div]; rfl
  rw [e]
  exact Rat.divInt_nonneg (by omega) (by omega)
theorem Fr.sm {D B : Nat} {x : Rat} (h0 : D ≠ 0) (hD : D < 2 ^ B) (hx : Fr D x) (h1 : x ≤ 1) : Sm B x := by
  obtain ⟨n, rfl⟩ := hx
  have hp : (0 : Rat) < (D : Rat) := by exact_mod_cast Nat.pos_of_ne_zero h0
  have hn : n ≤ D := by
    have h2 := Rat.mul_le_mul_of_nonneg_right h1 (Rat.le_of_lt hp)
    have : (n : Rat) / (D : Rat) * (D : Rat) = n := by grind
    rw [this, Rat.one_mul] at h2
    exact_mod_cast h2
  have e : (n : Rat) / (D : Rat) = Rat.divInt (n : Int) (D : Int) := by rw [Rat.divInt_eq_div]; rfl
  rw [e]
  exact Sm_divInt (by simpa using Nat.lt_of_le_of_lt hn hD) (by simpa using hD) (by omega)
theorem sum_nonneg {xs : List Rat} (h : ∀ x ∈ xs, 0 ≤ x) : 0 ≤ xs.sum := by
  induction xs with
  | nil => simp
  | cons x xs ih =>
    rw [List.sum_cons]
    have := h x List.mem_cons_self
    have := ih fun y hy => h y (List.mem_cons_of_mem _ hy)
    grind
theorem Sms_of {D : Nat} {xs : List Rat} (h0 : D ≠ 0) (hD : D < 2 ^ 4000) (h : ∀ x ∈ xs, Fr D x) (hs : xs.sum ≤ 1) : Sms xs := by
  intro pre x post e
  subst e
  have n1 : 0 ≤ pre.sum := sum_nonneg fun y hy => (h y (by simp [hy])).nonneg
  have n2 : 0 ≤ post.sum := sum_nonneg fun y hy => (h y (by simp [hy])).nonneg
  have n3 : 0 ≤ x := (h x (by simp)).nonneg
  rw [sum_append, List.sum_cons] at hs
  exact ⟨(Fr.sum h0 fun y hy => h y (by simp [hy])).sm h0 hD (by grind), (h x (by simp)).sm h0 hD (by grind)⟩
end EV.Sp
end

section
set_option autoImplicit false
set_option linter.all false
set_option maxRecDepth 100000
set_option exponentiation.threshold 10000
/-! SpQ: ratios judged; the law's own ratios. -/
namespace EV.Sp
open PySem
/-- is_whole(value): 0 value -/
def b_is_whole : Ss :=
 (.cons (.ret (.and (.cons (.isi (.var 0) [.int]) (.cons (.not (.isi (.var 0) [.bool])) .nil))))
 .nil)
noncomputable def c_is_whole : Ctx := ⟨[], []⟩
noncomputable def f_is_whole : Fn := den c_is_whole 1 1 false b_is_whole
/-- is_ratio(value): 0 value 1 part -/
def b_is_ratio : Ss :=
 (.cons (.ife (.or (.cons (.not (.isi (.var 0) [.tuple])) (.cons (.cmp .NotEq (.b1 .len 0 (.var 0)) (.con (.int 2))) (.cons (.not (.b1 .all 0 (.lc1 0 (.call 0 (.cons (.var 1) .nil)) (.nm 1) (.val (.var 0)) .nil [1]))) .nil))))
 (.cons (.ret (.con (.bool false)))
 .nil)
 .nil)
 (.cons (.ret (.and (.cons (.cmp .Gt (.idx (.var 0) (.con (.int 1))) (.con (.int 0))) (.cons (.cmp .Eq (.b2 .gcd (.idx (.var 0) (.con (.int 0))) (.idx (.var 0) (.con (.int 1)))) (.con (.int 1))) .nil))))
 .nil))
noncomputable def c_is_ratio : Ctx := ⟨[("is_whole", f_is_whole)], []⟩
noncomputable def f_is_ratio : Fn := den c_is_ratio 1 2 false b_is_ratio
/-- is_chance(value): 0 value -/
def b_is_chance : Ss :=
 (.cons (.ret (.and (.cons (.call 0 (.cons (.var 0) .nil)) (.cons (.chn .LtE .LtE (.con (.int 0)) (.idx (.var 0) (.con (.int 0))) (.idx (.var 0) (.con (.int 1)))) .nil))))
 .nil)
noncomputable def c_is_chance : Ctx := ⟨[("is_ratio", f_is_ratio)], []⟩
noncomputable def f_is_chance : Fn := den c_is_chance 1 1 false b_is_chance
/-- _law_q(n, d): 0 n 1 d 2 one 3 other -/
def b_law_q : Ss :=
 (.cons (.par [2, 3] (.cons (.b1 .abs 0 (.var 0)) (.cons (.b1 .abs 0 (.var 1)) .nil)))
 (.cons (.whl (.cmp .Gt (.var 3) (.con (.int 0)))
 (.cons (.par [2, 3] (.cons (.var 3) (.cons (.bin .Mod (.b1 .int 0 (.var 2)) (.var 3)) .nil)))
 .nil))
 (.cons (.ret (.ife (.cmp .Gt (.var 1) (.con (.int 0))) (.tup (.cons (.bin .FloorDiv (.var 0) (.var 2)) (.cons (.bin .FloorDiv (.var 1) (.var 2)) .nil))) (.tup (.cons (.bin .FloorDiv (.neg (.var 0)) (.var 2)) (.cons (.bin .FloorDiv (.neg (.var 1)) (.var 2)) .nil)))))
 .nil)))
noncomputable def c_law_q : Ctx := ⟨[], []⟩
noncomputable def f_law_q : Fn := den c_law_q 2 4 false b_law_q
/-- _law_plus(one, other): 0 one 1 other -/
def b_law_plus : Ss :=
 (.cons (.ret (.call 0 (.cons (.bin .Add (.bin .Mult (.idx (.var 0) (.con (.int 0))) (.idx (.var 1) (.con (.int 1)))) (.bin .Mult (.idx (.var 1) (.con (.int 0))) (.idx (.var 0) (.con (.int 1))))) (.cons (.bin .Mult (.idx (.var 0) (.con (.int 1))) (.idx (.var 1) (.con (.int 1)))) .nil))))
 .nil)
noncomputable def c_law_plus : Ctx := ⟨[("_law_q", f_law_q)], []⟩
noncomputable def f_law_plus : Fn := den c_law_plus 2 2 false b_law_plus
/-- _law_minus(one, other): 0 one 1 other -/
def b_law_minus : Ss :=
 (.cons (.ret (.call 0 (.cons (.bin .Sub (.bin .Mult (.idx (.var 0) (.con (.int 0))) (.idx (.var 1) (.con (.int 1)))) (.bin .Mult (.idx (.var 1) (.con (.int 0))) (.idx (.var 0) (.con (.int 1))))) (.cons (.bin .Mult (.idx (.var 0) (.con (.int 1))) (.idx (.var 1) (.con (.int 1)))) .nil))))
 .nil)
noncomputable def c_law_minus : Ctx := ⟨[("_law_q", f_law_q)], []⟩
noncomputable def f_law_minus : Fn := den c_law_minus 2 2 false b_law_minus
/-- _law_times(one, other): 0 one 1 other -/
def b_law_times : Ss :=
 (.cons (.ret (.call 0 (.cons (.bin .Mult (.idx (.var 0) (.con (.int 0))) (.idx (.var 1) (.con (.int 0)))) (.cons (.bin .Mult (.idx (.var 0) (.con (.int 1))) (.idx (.var 1) (.con (.int 1)))) .nil))))
 .nil)
noncomputable def c_law_times : Ctx := ⟨[("_law_q", f_law_q)], []⟩
noncomputable def f_law_times : Fn := den c_law_times 2 2 false b_law_times
@[simp] theorem tyD_R (q : Rat) : tyD (R q) = .tuple := (rfl)
@[simp] theorem tyD_Nt (q : List Nat) : tyD (Nt q) = .tuple := (rfl)
@[simp] theorem s_is_whole (x : Dt) : f_is_whole [.d x] = ret (.d (.bool (decide (tyD x = .int)))) := by
  refine den_ret rfl rfl (ρ' := [some (.d x)]) ?_
  simp [b_is_whole]
  cases x <;> simp [subTy]
theorem gcd_R (q : Rat) : Nat.gcd q.num.natAbs q.den = 1 := q.reduced
@[simp] theorem s_is_ratio (q : Rat) : f_is_ratio [.d (R q)] = ret (.d (.bool true)) := by
  refine den_ret rfl rfl (ρ' := [some (.d (R q)), none]) ?_
  have h1 : comp [] (turn1 c_is_ratio (.nm 1) [1] .nil (.call 0 (.cons (.var 1) .nil)) [some (.d (R q)), none]) (List.map Val.d [.int q.num, .int (q.den : Nat)]) = ret [.bool true, .bool true] := by
    refine lc_map (xs := [PyData.int q.num, PyData.int (q.den : Nat)]) (fun _ => PyData.bool true) fun x hx => ?_
    rcases List.mem_cons.mp hx with rfl | hx
    · simp [c_is_ratio]
    · rw [List.mem_singleton.mp hx]; simp [c_is_ratio]
  have e : itemsD (R q) = some [.int q.num, .int (q.den : Nat)] := rfl
  have l : b1D .len (R q) = some (.int 2) := rfl
  have dp := q.den_pos
  simp only [c_is_ratio, List.map_cons, List.map_nil] at h1
  simp [b_is_ratio, c_is_ratio, subTy, e, l, h1, boolsOf, gcd_R, dp]
/-- a chance -/
def Ch (q : Rat) : Prop := 0 ≤ q ∧ q ≤ 1
instance (q : Rat) : Decidable (Ch q) := inferInstanceAs (Decidable (_ ∧ _))
@[simp] theorem s_is_chance (q : Rat) : f_is_chance [.d (R q)] = ret (.d (.bool (decide (Ch q)))) := by
  refine den_ret rfl rfl (ρ' := [some (.d (R q))]) ?_
  have h1 : (0 ≤ q.num) = (0 ≤ q) := propext Rat.num_nonneg
  have h2 : (q.num ≤ (q.den : Int)) = (q ≤ 1) := propext (by rw [Rat.le_iff]; simp)
  simp [b_is_chance, c_is_chance, h1, h2, Ch]
  by_cases a : 0 ≤ q <;> by_cases b : q ≤ 1 <;> simp [a, b]
/-! ### the law's own -/
theorem fdiv_g {n : Int} {g : Nat} : n.fdiv g = n / g := Int.fdiv_eq_ediv_of_nonneg _ (by omega)
theorem s_law_q {n d : Int} (h : d ≠ 0) (hd : d.natAbs < 2 ^ 9000) : f_law_q [.d (.int n), .d (.int d)] = ret (.d (R (Rat.divInt n d))) := by
  have g0 : Nat.gcd n.natAbs d.natAbs ≠ 0 := fun z => h (Int.natAbs_eq_zero.mp (Nat.gcd_eq_zero_iff.mp z).2)
  have gl : (Nat.gcd n.natAbs d.natAbs) < 2 ^ 9000 := Nat.lt_of_le_of_lt (Nat.le_of_dvd (by omega) (Nat.gcd_dvd_right _ _)) hd
  have dg : d.gcd n = Nat.gcd n.natAbs d.natAbs := by simp only [Int.gcd]; rw [Nat.gcd_comm]
  obtain ⟨p, hp⟩ : ((Nat.gcd n.natAbs d.natAbs : Nat) : Int) ∣ n := Int.ofNat_dvd_left.mpr (Nat.gcd_dvd_left _ _)
  obtain ⟨q, hq⟩ : ((Nat.gcd n.natAbs d.natAbs : Nat) : Int) ∣ d := Int.ofNat_dvd_left.mpr (Nat.gcd_dvd_right _ _)
  have ab : ∀ i : Int, (if i < 0 then -i else i) = (i.natAbs : Int) := fun i => by split <;> omega
  refine den_ev rfl rfl fun st => ?_
  simp [b_law_q, ab]
  refine wp_whl (fun m ρ s => s = st ∧ ∃ a b : Nat, m = b ∧ ρ = [some (.d (.int n)), some (.d (.int d)), some (.d (.int a)), some (.d (.int b))] ∧ Nat.gcd a b = Nat.gcd n.natAbs d.natAbs) (n := d.natAbs) ⟨rfl, _, _, rfl, rfl, rfl⟩ ?_
  rintro b _ _ ⟨rfl, a, _, rfl, rfl, e⟩
  by_cases hb : b = 0
  · subst hb
    have ea : a = Nat.gcd n.natAbs d.natAbs := by rw [← e]; simp
    subst ea
    rw [R_divInt h, dg]
    generalize hg : Nat.gcd n.natAbs d.natAbs = g at *
    have gz : (g : Int) ≠ 0 := by omega
    have fz : ¬(g = 0) := by omega
    by_cases hd0 : 0 < d
    · have e3 : (d.natAbs / g : Nat) = d / g := by rw [Int.natCast_ediv, Int.natAbs_of_nonneg (by omega)]
      simp [hd0, gz, fz, divOk (y := g) (by simpa using gl), fdiv_g, Int.sign_eq_one_of_pos hd0, e3]
    · have hdn : d < 0 := by omega
      have e3 : (d.natAbs / g : Nat) = -d / g := by rw [Int.natCast_ediv]; congr 1; omega
      simp [hd0, gz, fz, divOk (y := g) (by simpa using gl), fdiv_g, Int.sign_eq_neg_one_of_neg hdn, e3]
  · have hb' : 0 < (b : Int) := by omega
    have e1 : (a : Int).fmod b = ((a % b : Nat) : Int) := by rw [Int.fmod_eq_emod_of_nonneg _ (by omega)]; simp
    have hb2 := Nat.pos_of_ne_zero hb
    simp [hb, hb2, e1]
    refine ⟨a % b, Nat.mod_lt _ hb2, b, ⟨rfl, by simp⟩, ?_⟩
    rw [← e, Nat.gcd_comm b, ← Nat.gcd_rec, Nat.gcd_comm]
theorem s_law_plus {a b : Rat} (ha : Sm 4000 a) (hb : Sm 4000 b) : f_law_plus [.d (R a), .d (R b)] = ret (.d (R (a + b))) := by
  have e : a + b = Rat.divInt (a.num * b.den + b.num * a.den) (a.den * b.den) := by
    rw [Rat.add_def', ← Rat.divInt_ofNat, Int.natCast_mul]
  have hd : ((a.den : Int) * (b.den : Int)).natAbs < 2 ^ 9000 := natAbs_mul_lt ha.den hb.den (by decide)
  refine den_ret rfl rfl (ρ' := [some (.d (R a)), some (.d (R b))]) ?_
  simp [b_law_plus, c_law_plus, mulOk_of ha.num hb.den (by decide), mulOk_of hb.num ha.den (by decide), mulOk_of ha.den hb.den (by decide), s_law_q (Int.mul_ne_zero (den0 a) (den0 b)) hd, e]
theorem s_law_minus {a b : Rat} (ha : Sm 4000 a) (hb : Sm 4000 b) : f_law_minus [.d (R a), .d (R b)] = ret (.d (R (a - b))) := by
  have e : a - b = Rat.divInt (a.num * b.den - b.num * a.den) (a.den * b.den) := by
    rw [Rat.sub_def', ← Rat.divInt_ofNat, Int.natCast_mul]
  have hd : ((a.den : Int) * (b.den : Int)).natAbs < 2 ^ 9000 := natAbs_mul_lt ha.den hb.den (by decide)
  refine den_ret rfl rfl (ρ' := [some (.d (R a)), some (.d (R b))]) ?_
  simp [b_law_minus, c_law_minus, mulOk_of ha.num hb.den (by decide), mulOk_of hb.num ha.den (by decide), mulOk_of ha.den hb.den (by decide), s_law_q (Int.mul_ne_zero (den0 a) (den0 b)) hd, e]
theorem s_law_times {a b : Rat} (ha : Sm 4000 a) (hb : Sm 4000 b) : f_law_times [.d (R a), .d (R b)] = ret (.d (R (a * b))) := by
  have e : a * b = Rat.divInt (a.num * b.num) (a.den * b.den) := by
    rw [← Rat.divInt_mul_divInt, Rat.num_divInt_den, Rat.num_divInt_den]
  have hd : ((a.den : Int) * (b.den : Int)).natAbs < 2 ^ 9000 := natAbs_mul_lt ha.den hb.den (by decide)
  refine den_ret rfl rfl (ρ' := [some (.d (R a)), some (.d (R b))]) ?_
  simp [b_law_times, c_law_times, mulOk_of ha.num hb.num (by decide), mulOk_of ha.den hb.den (by decide), s_law_q (Int.mul_ne_zero (den0 a) (den0 b)) hd, e]
end EV.Sp
end

section
set_option autoImplicit false
set_option linter.all false
set_option maxRecDepth 100000
set_option exponentiation.threshold 10000
/-! SpD: draws. -/
namespace EV.Sp
open PySem
/-- _law_blended(state): 0 state 1 turn 2 found 3 prime 4 blend 5 cell -/
def b_law_blended : Ss :=
 (.cons (.par [1, 2] (.cons (.bin .Add (.idx (.var 0) (.con (.str "turn"))) (.con (.int 1))) (.cons (.con (.int 0)) .nil)))
 (.cons (.sub (.var 0) (.con (.str "turn")) (.var 1))
 (.cons (.for_ (.nm 3) (.val (.lst 0 (.cons (.con (.int 2147483579)) (.cons (.con (.int 2147483629)) (.cons (.con (.int 2147483563)) .nil)))))
 (.cons (.asg (.nm 4) (.bin .Add (.bin .Mult (.con (.int 48271)) (.var 1)) (.bin .FloorDiv (.var 3) (.con (.int 53)))))
 (.cons (.for_ (.nm 5) (.val (.idx (.var 0) (.con (.str "cells"))))
 (.cons (.asg (.nm 4) (.bin .Mod (.b1 .int 0 (.bin .Add (.bin .Add (.bin .Mult (.var 4) (.con (.int 69621))) (.var 5)) (.var 1))) (.var 3)))
 .nil))
 (.cons (.asg (.nm 2) (.bin .Add (.bin .Mult (.var 2) (.con (.int 2147483647))) (.bin .Mod (.b1 .int 0 (.bin .Pow (.var 4) (.con (.int 5)))) (.var 3))))
 .nil))))
 (.cons (.ret (.var 2))
 .nil))))
noncomputable def c_law_blended : Ctx := ⟨[], []⟩
noncomputable def f_law_blended : Fn := den c_law_blended 1 6 false b_law_blended
/-- _law_draw(state, room): 0 state 1 room 2 found -/
def b_law_draw : Ss :=
 (.cons (.ife (.cmp .Eq (.idx (.var 0) (.con (.str "rest"))) (.con (.int 0)))
 (.cons (.sub (.var 0) (.con (.str "rest")) (.ife (.cmp .NotEq (.idx (.var 0) (.con (.str "great"))) (.lst 0 .nil)) (.mt .popAt (.idx (.var 0) (.con (.str "great"))) (.cons (.con (.int 0)) .nil)) (.call 0 (.cons (.var 0) .nil))))
 .nil)
 .nil)
 (.cons (.asg (.nm 2) (.bin .Mod (.b1 .int 0 (.idx (.var 0) (.con (.str "rest")))) (.var 1)))
 (.cons (.sub (.var 0) (.con (.str "rest")) (.bin .FloorDiv (.idx (.var 0) (.con (.str "rest"))) (.var 1)))
 (.cons (.ret (.var 2))
 .nil))))
noncomputable def c_law_draw : Ctx := ⟨[("_law_blended", f_law_blended)], []⟩
noncomputable def f_law_draw : Fn := den c_law_draw 2 3 false b_law_draw
/-- _law_pick(state, some): 0 state 1 some -/
def b_law_pick : Ss :=
 (.cons (.ret (.idx (.var 1) (.call 0 (.cons (.var 0) (.cons (.b1 .len 0 (.var 1)) .nil)))))
 .nil)
noncomputable def c_law_pick : Ctx := ⟨[("_law_draw", f_law_draw)], []⟩
noncomputable def f_law_pick : Fn := den c_law_pick 2 2 false b_law_pick
/-- _law_shuffled(state, some): 0 state 1 some 2 left 3 found -/
def b_law_shuffled : Ss :=
 (.cons (.par [2, 3] (.cons (.b1 .list 1 (.var 1)) (.cons (.lst 1 .nil) .nil)))
 (.cons (.whl (.cmp .NotEq (.var 2) (.lst 0 .nil))
 (.cons (.exp (.mt .append (.var 3) (.cons (.mt .popAt (.var 2) (.cons (.call 0 (.cons (.var 0) (.cons (.b1 .len 0 (.var 2)) .nil))) .nil)) .nil)))
 .nil))
 (.cons (.ret (.frz (.var 3)))
 .nil)))
noncomputable def c_law_shuffled : Ctx := ⟨[("_law_draw", f_law_draw)], []⟩
noncomputable def f_law_shuffled : Fn := den c_law_shuffled 2 4 false b_law_shuffled
/-- _law_begun(script): 0 script 1 great 2 cell -/
def b_law_begun : Ss :=
 (.cons (.asg (.nm 1) (.lc1 1 (.bin .Sub (.b1 .abs 0 (.var 2)) (.bin .Pow (.con (.int 10)) (.con (.int 18)))) (.nm 2) (.val (.var 0)) (.cons (.cmp .GtE (.b1 .abs 0 (.var 2)) (.bin .Pow (.con (.int 10)) (.con (.int 18)))) .nil) [2]))
 (.cons (.ret (.dcv ["great", "cells", "rest", "turn"] (.cons (.var 1) (.cons (.lc1 0 (.b1 .abs 0 (.var 2)) (.nm 2) (.val (.var 0)) .nil [2]) (.cons (.con (.int 0)) (.cons (.con (.int 0)) .nil))))))
 .nil))
noncomputable def c_law_begun : Ctx := ⟨[], []⟩
noncomputable def f_law_begun : Fn := den c_law_begun 1 3 true b_law_begun
/-- the four parts of the state -/
def parts (a b c d : Val) : List (Str × Val) := [("great", a), ("cells", b), ("rest", c), ("turn", d)]
section
variable (a b c d x : Val)
@[simp] theorem look_great : (parts a b c d).lookup ("great" : Str) = some a := (rfl)
@[simp] theorem look_cells : (parts a b c d).lookup ("cells" : Str) = some b := (rfl)
@[simp] theorem look_rest : (parts a b c d).lookup ("rest" : Str) = some c := (rfl)
@[simp] theorem look_turn : (parts a b c d).lookup ("turn" : Str) = some d := (rfl)
@[simp] theorem len_parts : (parts a b c d).length = 4 := (rfl)
end
/-- the state of the draws: the dict at n, the list of great numbers at g; b more turns may be taken -/
def DS (n g b : Nat) (st : Sto) : Prop := ∃ (gr cs : List Int) (rest : Int) (turn : Nat), st[n]? = some (.dcv (parts (.ref g) (.d (.list (cs.map .int))) (.d (.int rest)) (.d (.int turn)))) ∧ st[g]? = some (.lst (gr.map .int)) ∧ g < n ∧ turn + b ≤ 2 ^ 40
/-- draws were made -/
def Dr (n g b : Nat) (st st' : Sto) : Prop := st'.length = st.length ∧ DS n g b st' ∧ ∀ m, m ≠ n → m ≠ g → st'[m]? = st[m]?
theorem DS.mono {n g b c : Nat} {st : Sto} (h : DS n g b st) (l : c ≤ b) : DS n g c st := by
  obtain ⟨gr, cs, rest, turn, h1, h2, h3, h4⟩ := h
  exact ⟨gr, cs, rest, turn, h1, h2, h3, by omega⟩
theorem Dr.mono {n g b c : Nat} {st st' : Sto} (h : Dr n g b st st') (l : c ≤ b) : Dr n g c st st' := ⟨h.1, h.2.1.mono l, h.2.2⟩
theorem Dr.refl {n g b : Nat} {st : Sto} (h : DS n g b st) : Dr n g b st st := ⟨rfl, h, fun _ _ _ => rfl⟩
theorem Dr.trans {n g b b' : Nat} {x y z : Sto} (h : Dr n g b x y) (k : Dr n g b' y z) : Dr n g b' x z := ⟨k.1.trans h.1, k.2.1, fun m h1 h2 => (k.2.2 m h1 h2).trans (h.2.2 m h1 h2)⟩
theorem idxV_ref_dcv {st : Sto} {n : Nat} {kvs : List (Str × Val)} {k : Str} {v : Val} {Q : Val → Sto → Prop} (h : st[n]? = some (.dcv kvs)) (hv : kvs.lookup k = some v) (q : Q v st) : wp (idxV (.ref n) (.d (.str k))) Q st := by
  unfold wp idxV
  simp only [h, hv]
  exact q
theorem putV_dcv {st : Sto} {n : Nat} {a b c d x : Val} {Q : Unit → Sto → Prop} {k : Str} {kvs : List (Str × Val)} (h : st[n]? = some (.dcv (parts a b c d))) (hk : ((parts a b c d).lookup k).isSome = true) (e : ((parts a b c d).map fun p => if p.1 = k then (p.1, x) else p) = kvs) (q : Q () (st.set n (.dcv kvs))) : wp (putV (.ref n) (.d (.str k)) x) Q st := by
  unfold wp putV
  have f : fits ((parts a b c d).length + 1) = true := rfl
  simp only [h, hk, f, Bool.and_self, if_true, e]
  exact q
theorem put_rest {st : Sto} {n : Nat} {a b c d x : Val} {Q : Unit → Sto → Prop} (h : st[n]? = some (.dcv (parts a b c d))) (q : Q () (st.set n (.dcv (parts a b x d)))) : wp (putV (.ref n) (.d (.str "rest")) x) Q st := putV_dcv h rfl rfl q
theorem put_turn {st : Sto} {n : Nat} {a b c d x : Val} {Q : Unit → Sto → Prop} (h : st[n]? = some (.dcv (parts a b c d))) (q : Q () (st.set n (.dcv (parts a b c x)))) : wp (putV (.ref n) (.d (.str "turn")) x) Q st := putV_dcv h rfl rfl q
/-- the dict's cell behind a change of its parts -/
theorem DS.set {n g b : Nat} {st : Sto} {gr cs : List Int} {rest : Int} {turn : Nat} (hn : n < st.length) (hg : st[g]? = some (.lst (gr.map .int))) (l : g < n) (ht : turn + b ≤ 2 ^ 40) : Dr n g b st (st.set n (.dcv (parts (.ref g) (.d (.list (cs.map .int))) (.d (.int rest)) (.d (.int turn))))) := by
  refine ⟨by simp, ⟨gr, cs, rest, turn, by simp [hn], by rw [List.getElem?_set_ne (by omega)]; exact hg, l, ht⟩, fun m h1 h2 => ?_⟩
  rw [List.getElem?_set_ne (fun e => h1 e.symm)]
theorem DS.lt {n g b : Nat} {st : Sto} (h : DS n g b st) : n < st.length := by
  obtain ⟨gr, cs, rest, turn, h1, h2, l⟩ := h
  exact (List.getElem?_eq_some_iff.mp h1).1
/-- what a body that only draws leaves -/
theorem Dr.back {n g b b' : Nat} {st s : Sto} (h : Dr n g b st s) (d : DS n g b' st) : Back st s := by
  obtain ⟨h1, ⟨gr, cs, rest, turn, c1, c2, l⟩, h3⟩ := h
  intro m c hm hc
  by_cases e1 : m = n
  · subst e1
    rw [c1] at hc
    cases hc
    refine .inr fun p hp => ?_
    have := d.lt
    simp only [parts, List.mem_cons, List.not_mem_nil, or_false] at hp
    rcases hp with rfl | rfl | rfl | rfl
    · show g < st.length; omega
    · trivial
    · trivial
    · trivial
  · by_cases e2 : m = g
    · subst e2
      rw [c2] at hc
      cases hc
      exact .inr trivial
    · exact .inl (by rw [← h3 m e1 e2]; exact hc)
/-- the same with own objects behind -/
def Drx (n g b : Nat) (st s : Sto) : Prop := st.length ≤ s.length ∧ Dr n g b st (s.take st.length)
theorem Drx.back {n g b b' : Nat} {st s : Sto} (h : Drx n g b st s) (d : DS n g b' st) : Back st s := by
  intro m c hm hc
  refine h.2.back d m c hm ?_
  rw [List.getElem?_take_of_lt hm]; exact hc
theorem Dr.drx {n g b : Nat} {st s : Sto} (h : Dr n g b st s) : Drx n g b st s := ⟨by rw [h.1]; exact Nat.le_refl _, by rw [List.take_of_length_le (by rw [h.1]; exact Nat.le_refl _)]; exact h⟩
/-- the end of a def that draws -/
theorem left_ret {n g b b' : Nat} {st s : Sto} {x : Dt} {ρ : Env} {Q : Val → Sto → Prop} (h : Drx n g b st s) (d : DS n g b' st) (q : Q (.d x) (s.take st.length)) : Left st Q (.ret (.d x), ρ) s := ⟨h.back d, q⟩
theorem mod_bound {x r : Int} (h : 0 < r) : 0 ≤ x.fmod r ∧ x.fmod r < r := ⟨Int.fmod_nonneg_of_pos _ h, Int.fmod_lt_of_pos _ h⟩
theorem s_law_blended {n g b : Nat} {st : Sto} (d : DS n g (b + 1) st) : wp (f_law_blended [.ref n]) (fun v s => (∃ k : Int, v = .d (.int k)) ∧ Dr n g b st s) st := by
  have hn := d.lt
  have d0 := d
  obtain ⟨gr, cs, rest, turn, h1, h2, l, ht⟩ := d
  refine wp_den rfl rfl ?_
  simp [b_law_blended]
  refine idxV_ref_dcv h1 rfl ?_
  simp
  refine put_turn h1 ?_
  have dr := DS.set (st := st) (gr := gr) (cs := cs) (rest := rest) (turn := turn + 1) (b := b) hn h2 l (by omega)
  have h1' : (st.set n (.dcv (parts (.ref g) (.d (.list (cs.map .int))) (.d (.int rest)) (.d (.int ((turn + 1 : Nat) : Int))))))[n]? = some (.dcv (parts (.ref g) (.d (.list (cs.map .int))) (.d (.int rest)) (.d (.int ((turn + 1 : Nat) : Int))))) := by simp [hn]
  have e0 : (.dcv [("great", .ref g), ("cells", .d (.list (cs.map .int))), ("rest", .d (.int rest)), ("turn", .d (.int ((turn : Int) + 1)))] : Cell) = .dcv (parts (.ref g) (.d (.list (cs.map .int))) (.d (.int rest)) (.d (.int ((turn + 1 : Nat) : Int)))) := rfl
  show wp _ _ (st.set n (.dcv (parts (.ref g) (.d (.list (cs.map .int))) (.d (.int rest)) (.d (.int ((turn + 1 : Nat) : Int))))))
  generalize st.set n (.dcv (parts (.ref g) (.d (.list (cs.map .int))) (.d (.int rest)) (.d (.int ((turn + 1 : Nat) : Int))))) = s1 at *
  have e : [Val.d (.int 2147483579), Val.d (.int 2147483629), Val.d (.int 2147483563)] = [2147483579, 2147483629, 2147483563].map fun p : Int => Val.d (.int p) := rfl
  rw [e]
  refine wp_floop (fun rest ρ s => s = s1 ∧ (∀ p ∈ rest, 0 < p ∧ p < 2 ^ 31) ∧ ∃ (f : Int) (w1 w2 w3 : Option Val), ρ = [some (.ref n), some (.d (.int ((turn : Int) + 1))), some (.d (.int f)), w1, w2, w3]) ⟨rfl, by decide, 0, none, none, none, rfl⟩ ?_ ?_
  · rintro p ps _ s1 ⟨rfl, hp, f, w1, w2, w3, rfl⟩
    refine ⟨fun _ _ => rfl, ?_⟩
    have hp0 := hp p (by simp)
    have p1 : 0 ≤ p.fdiv 53 := by rw [Int.fdiv_eq_ediv_of_nonneg _ (by decide)]; omega
    have p2 : p.fdiv 53 < 2 ^ 31 := by rw [Int.fdiv_eq_ediv_of_nonneg _ (by decide)]; omega
    simp [mulOk_left (a := 48271) (by decide), divOk (y := 53) (by decide)]
    refine idxV_ref_dcv h1' rfl ?_
    simp
    have e2 : List.map (Val.d ∘ PyData.int) cs = cs.map fun p : Int => Val.d (.int p) := rfl
    rw [e2]
    refine wp_floop (fun rest ρ s => s = s1 ∧ ∃ (b : Int) (w3 : Option Val), b.natAbs < 2 ^ 64 ∧ ρ = [some (.ref n), some (.d (.int ((turn : Int) + 1))), some (.d (.int f)), some (.d (.int p)), some (.d (.int b)), w3]) ⟨rfl, _, _, ?_, rfl⟩ ?_ ?_
    · omega
    · rintro c cr _ _ ⟨rfl, b, w, hb, rfl⟩
      refine ⟨fun _ _ => rfl, ?_⟩
      have := mod_bound (x := b * 69621 + c + (turn + 1)) hp0.1
      have h3 : ((b * 69621 + c + (turn + 1)).fmod p).natAbs < 2 ^ 64 := by omega
      simp [mulOk_right (a := b) (b := 69621) (by decide), show ¬(p = 0) by omega]
      exact h3
    · rintro _ _ ⟨rfl, b, w, hb, rfl⟩
      refine ⟨fun _ _ => rfl, ?_⟩
      have hb' : b.natAbs < 18446744073709551616 := hb
      simp [hb', mulOk_right (a := f) (b := 2147483647) (by decide), show ¬(p = 0) by omega]
      exact fun q hq => hp q (by simp [hq])
  · rintro _ _ ⟨rfl, hp, f, w1, w2, w3, rfl⟩
    refine ⟨fun _ _ => rfl, ?_⟩
    simp
    refine left_ret dr.drx d0 ⟨⟨_, rfl⟩, ?_⟩
    rw [List.take_of_length_le (by rw [dr.1]; omega)]
    exact dr
/-! ### draws -/
theorem Dr.of_sets {n g b : Nat} {st s : Sto} (hl : s.length = st.length) (d : DS n g b s) (h : ∀ m, m ≠ n → m ≠ g → s[m]? = st[m]?) : Dr n g b st s := ⟨hl, d, h⟩
/-- a drawn number below r -/
def Drawn (n g b : Nat) (st : Sto) (r : Nat) (v : Val) (s : Sto) : Prop := ∃ k : Nat, k < r ∧ v = .d (.int k) ∧ Dr n g b st s
theorem s_law_draw {n g b : Nat} {st : Sto} {r : Nat} (d : DS n g (b + 1) st) (h0 : 0 < r) (hr : r < 2 ^ 64) : wp (f_law_draw [.ref n, .d (.int r)]) (Drawn n g b st r) st := by
  have key : ∀ (s1 : Sto) (w : Option Val), Dr n g b st s1 → wp (exs c_law_draw (.cons (.asg (.nm 2) (.bin .Mod (.b1 .int 0 (.idx (.var 0) (.con (.str "rest")))) (.var 1)))
      (.cons (.sub (.var 0) (.con (.str "rest")) (.bin .FloorDiv (.idx (.var 0) (.con (.str "rest"))) (.var 1))) (.cons (.ret (.var 2)) .nil))) [some (.ref n), some (.d (.int r)), w]) (Left st (Drawn n g b st r)) s1 := by
    intro s1 w dr
    have dr0 := dr
    obtain ⟨h1, ⟨gr, cs, rest, turn, c1, c2, l, ht⟩, h3⟩ := dr
    have dk : Builtin.divisionGoesByPylong rest r = false := divOk (Nat.lt_of_lt_of_le (m := 2 ^ 64) (by rw [Int.natAbs_natCast]; exact hr) (Nat.pow_le_pow_right (by decide) (by decide)))
    simp
    refine idxV_ref_dcv c1 rfl ?_
    simp [show ¬(r = 0) by omega]
    refine idxV_ref_dcv c1 rfl ?_
    simp [show ¬(r = 0) by omega, dk]
    refine put_rest c1 ?_
    have hn : n < s1.length := dr0.2.1.lt
    have dr2 := dr0.trans (DS.set (st := s1) (gr := gr) (cs := cs) (rest := rest.fdiv r) (turn := turn) (b := b) hn c2 l ht)
    have mb := mod_bound (x := rest) (r := r) (by omega)
    refine left_ret dr2.drx d ⟨(rest.fmod r).toNat, by omega, ?_, ?_⟩
    · rw [Int.toNat_of_nonneg mb.1]
    · rw [List.take_of_length_le (by rw [← h1]; simp)]
      exact dr2
  have d0 := d
  have hn := d.lt
  obtain ⟨gr, cs, rest, turn, h1, h2, l, ht⟩ := d
  refine wp_den rfl rfl ?_
  simp [b_law_draw]
  refine idxV_ref_dcv h1 rfl ?_
  simp
  split
  · refine idxV_ref_dcv h1 rfl ?_
    rw [wp_cmpV, wp_dat_lst h2]
    simp [shaped_ints]
    cases gr with
    | nil =>
      simp
      simp [c_law_draw]
      refine (s_law_blended d0).mono ?_
      rintro _ s ⟨⟨k, rfl⟩, dr⟩
      obtain ⟨e1, ⟨gr', cs', rest', turn', c1, c2, l', ht'⟩, e3⟩ := id dr
      refine put_rest c1 ?_
      have := key _ none (dr.trans (DS.set (st := s) (gr := gr') (cs := cs') (rest := k) (turn := turn') (b := b) dr.2.1.lt c2 l' ht'))
      simpa [c_law_draw] using this
    | cons x gr =>
      simp
      refine idxV_ref_dcv h1 rfl ?_
      rw [wp_mtK h2]
      have e : (.int 0 : Dt) = .int (0 : Nat) := rfl
      rw [e, wp_popAt (y := .int x) h2 rfl]
      refine put_rest (a := .ref g) (b := .d (.list (cs.map .int))) (c := .d (.int rest)) (d := .d (.int turn)) (by rw [List.getElem?_set_ne (by omega)]; exact h1) ?_
      have hg : g < st.length := by omega
      have dr : Dr n g b st ((st.set g (.lst (gr.map .int))).set n (.dcv (parts (.ref g) (.d (.list (cs.map .int))) (.d (.int x)) (.d (.int turn))))) := by
        refine Dr.of_sets (by simp) ⟨gr, cs, x, turn, by simp [hn], by rw [List.getElem?_set_ne (by omega)]; simp [hg], l, by omega⟩ fun m a1 a2 => ?_
        rw [List.getElem?_set_ne (by omega), List.getElem?_set_ne (by omega)]
      have := key _ none dr
      simpa using this
  · have := key st none (Dr.refl (d0.mono (by omega)))
    simpa using this
theorem DS.of_take {n g b k : Nat} {s : Sto} (h : DS n g b (s.take k)) : DS n g b s := by
  obtain ⟨gr, cs, rest, turn, h1, h2, h3, h4⟩ := h
  refine ⟨gr, cs, rest, turn, ?_, ?_, h3, h4⟩
  · have := (List.getElem?_eq_some_iff.mp h1).1
    rw [List.length_take] at this
    rw [List.getElem?_take_of_lt (by omega)] at h1
    exact h1
  · have := (List.getElem?_eq_some_iff.mp h2).1
    rw [List.length_take] at this
    rw [List.getElem?_take_of_lt (by omega)] at h2
    exact h2
theorem Drx.ds {n g b : Nat} {st s : Sto} (h : Drx n g b st s) : DS n g b s := h.2.2.1.of_take
theorem DS.to_take {n g b k : Nat} {s : Sto} (h : DS n g b s) (hn : n < k) : DS n g b (s.take k) := by
  obtain ⟨gr, cs, rest, turn, h1, h2, h3, h4⟩ := h
  exact ⟨gr, cs, rest, turn, by rw [List.getElem?_take_of_lt hn]; exact h1, by rw [List.getElem?_take_of_lt (by omega)]; exact h2, h3, h4⟩
theorem Drx.n_lt {n g b : Nat} {st s : Sto} (h : Drx n g b st s) : n < st.length := by
  have := h.2.2.1.lt
  rw [List.length_take] at this; omega
theorem Drx.trans {n g b b' : Nat} {st s s' : Sto} (h : Drx n g b st s) (k : Dr n g b' s s') : Drx n g b' st s' := by
  have hl := h.1
  refine ⟨by rw [k.1]; exact hl, ?_⟩
  refine Dr.of_sets (by rw [List.length_take, k.1]; omega) (k.2.1.to_take h.n_lt) fun m a1 a2 => ?_
  rw [← h.2.2.2 m a1 a2]
  by_cases hm : m < st.length
  · rw [List.getElem?_take_of_lt hm, List.getElem?_take_of_lt hm, k.2.2 m a1 a2]
  · rw [List.getElem?_eq_none (by rw [List.length_take]; omega), List.getElem?_eq_none (by rw [List.length_take]; omega)]
theorem Drx.set {n g b k : Nat} {st s : Sto} {c : Cell} (h : Drx n g b st s) (hk : st.length ≤ k) : Drx n g b st (s.set k c) := by
  refine ⟨by simpa using h.1, ?_⟩
  rw [List.take_set_of_le hk]; exact h.2
theorem Drx.app {n g b : Nat} {st s : Sto} {t : Sto} (h : Drx n g b st s) : Drx n g b st (s ++ t) := by
  refine ⟨by simp; have := h.1; omega, ?_⟩
  rw [List.take_append_of_le_length h.1]; exact h.2
theorem Drx.refl {n g b : Nat} {st : Sto} (h : DS n g b st) : Drx n g b st st := (Dr.refl h).drx
theorem Drx.mono {n g b c : Nat} {st st' : Sto} (h : Drx n g b st st') (l : c ≤ b) : Drx n g c st st' := ⟨h.1, h.2.mono l⟩
/-- what lies behind stays in a draw -/
theorem Dr.far {n g b m : Nat} {s s' : Sto} (k : Dr n g b s s') (hm : n < m) (hg : g < n) : s'[m]? = s[m]? := k.2.2 m (by omega) (by omega)
theorem DS.gn {n g b : Nat} {s : Sto} (h : DS n g b s) : g < n := by obtain ⟨_, _, _, _, _, _, h, _⟩ := h; exact h
/-- one of a list -/
theorem s_law_pick {n g b : Nat} {st : Sto} {xs : List Dt} (d : DS n g (b + 1) st) (h0 : xs ≠ []) (hr : xs.length < 2 ^ 64) : wp (f_law_pick [.ref n, .d (.list xs)]) (fun v s => (∃ x ∈ xs, v = .d x) ∧ Dr n g b st s) st := by
  refine wp_den rfl rfl ?_
  simp [b_law_pick, c_law_pick]
  refine (s_law_draw d (List.length_pos_iff.mpr h0) hr).mono ?_
  rintro _ s ⟨k, hk, rfl, dr⟩
  simp [at_nat, hk]
  refine left_ret dr.drx d ⟨⟨_, List.getElem_mem hk, rfl⟩, ?_⟩
  rw [List.take_of_length_le (by rw [dr.1]; exact Nat.le_refl _)]
  exact dr
theorem perm_pick {xs : List Dt} {i : Nat} {y : Dt} (h : xs[i]? = some y) : xs.Perm (y :: xs.eraseIdx i) := by
  induction xs generalizing i with
  | nil => simp at h
  | cons x xs ih => cases i with
    | zero => simp at h; subst h; simp
    | succ i =>
      simp only [List.getElem?_cons_succ] at h
      simp only [List.eraseIdx_cons_succ]
      exact ((ih h).cons x).trans (List.Perm.swap y x _)
theorem s_law_shuffled {n g b : Nat} {st : Sto} {xs : List Dt} (d : DS n g (b + xs.length) st) (hr : xs.length < 16777216) (hx : ∀ ys : List Dt, ys.Subset xs → shaped (.list ys) = true) : wp (f_law_shuffled [.ref n, .d (.list xs)]) (fun v s => (∃ ys, xs.Perm ys ∧ v = .d (.list ys)) ∧ Dr n g b st s) st := by
  have hn := d.lt
  have gn := d.gn
  refine wp_den rfl rfl ?_
  simp [b_law_shuffled, c_law_shuffled]
  refine wp_whl (fun m ρ s => ∃ ls fs, m = ls.length ∧ xs.Perm (fs ++ ls) ∧ s.length = st.length + 2 ∧ s[st.length]? = some (.lst ls) ∧ s[st.length + 1]? = some (.lst fs) ∧ Drx n g (b + m) st s ∧ ρ = [some (.ref n), some (.d (.list xs)), some (.ref st.length), some (.ref (st.length + 1))])
    ⟨xs, [], rfl, by simp, by simp, by simp, by simp, (Drx.refl d).app, rfl⟩ ?_
  rintro _ _ s ⟨ls, fs, rfl, p, hl, c1, c2, dx, rfl⟩
  have sub : ls.Subset xs := fun a ha => p.mem_iff.mpr (List.mem_append.mpr (.inr ha))
  simp
  rw [wp_cmpV, wp_dat_lst c1]
  simp [hx ls sub]
  split
  · rename_i hls
    subst hls
    rw [wp_freeze_lst c2]
    have dx' := (dx.set (k := st.length + 1) (c := .fz (.list fs)) (by omega)).mono (c := b) (by simp)
    refine left_ret dx' d ⟨⟨fs, by simpa using p, rfl⟩, dx'.2⟩
  · have lp : 0 < ls.length := List.length_pos_iff.mpr (by assumption)
    have pl := p.length_eq
    rw [List.length_append] at pl
    rw [wp_mtK c2, wp_mtK c1, wp_dat_lst c1]
    simp
    have ds : DS n g ((b + (ls.length - 1)) + 1) s := dx.ds.mono (by omega)
    refine (s_law_draw ds lp (by omega)).mono ?_
    rintro _ s' ⟨k, hk, rfl, dr⟩
    have c1' : s'[st.length]? = some (.lst ls) := by rw [dr.far hn gn]; exact c1
    have c2' : s'[st.length + 1]? = some (.lst fs) := by rw [dr.far (by omega) gn]; exact c2
    rw [wp_popAt c1' (List.getElem?_eq_getElem hk)]
    have c2'' : (s'.set st.length (.lst (ls.eraseIdx k)))[st.length + 1]? = some (.lst fs) := by rw [List.getElem?_set_ne (by omega)]; exact c2'
    rw [wp_append c2'' (by omega)]
    have hl' : s'.length = st.length + 2 := by rw [dr.1, hl]
    have ll : (ls.eraseIdx k).length = ls.length - 1 := List.length_eraseIdx_of_lt hk
    refine ⟨(ls.eraseIdx k).length, by omega, ls.eraseIdx k, rfl, fs ++ [ls[k]], ?_, by simp [hl'], ?_, ?_, ?_⟩
    · rw [List.append_assoc]
      exact p.trans (List.Perm.append_left fs (perm_pick (List.getElem?_eq_getElem hk)))
    · rw [List.getElem?_set_ne (by omega), List.getElem?_set_self (by omega)]
    · rw [List.getElem?_set_self (by simp; omega)]
    · rw [ll]
      exact ((dx.trans dr).set (Nat.le_refl _)).set (by omega)
theorem s_law_begun {ns : List Int} {st : Sto} {v : Val} (hv : (v = .d (.list (ns.map .int)) ∧ st = []) ∨ (v = .ref 0 ∧ st = [.kl (ns.map .int)])) : wp (f_law_begun [v]) (fun w s => w = .ref (st.length + 1) ∧ s.length = st.length + 2 ∧ s.take st.length = st ∧ DS (st.length + 1) st.length (2 ^ 40) s) st := by
  have it : ∀ {t : Sto} {Q : List Val × List Nat → Sto → Prop}, (∃ x, t = st ++ x) → Q (ns.map fun i => .d (.int i), []) t → wp (itemsV v) Q t := by
    rintro t Q ⟨x, rfl⟩ q
    rcases hv with ⟨rfl, rfl⟩ | ⟨rfl, rfl⟩
    · simpa [Function.comp_def] using q
    · rw [wp_items_kl (xs := ns.map .int) (by simp)]
      simpa [Function.comp_def] using q
  refine wp_den_keep rfl rfl ?_
  simp [b_law_begun]
  refine it ⟨[], by simp⟩ ?_
  have h1 : comp [] (turn1 c_law_begun (.nm 2) [2] (.cons (.cmp .GtE (.b1 .abs 0 (.var 2)) (.bin .Pow (.con (.int 10)) (.con (.int 18)))) .nil) (.bin .Sub (.b1 .abs 0 (.var 2)) (.bin .Pow (.con (.int 10)) (.con (.int 18)))) [some v, none, none]) (ns.map fun i => .d (.int i)) = ret ((ns.filter fun i => decide (10 ^ 18 ≤ (if i < 0 then -i else i))).map fun i => .int ((if i < 0 then -i else i) - 10 ^ 18)) := by
    refine lc_filter _ _ fun x hx => ?_
    simp
  rw [h1]
  simp
  refine it ⟨_, rfl⟩ ?_
  have h2 : ∀ w, comp [] (turn1 c_law_begun (.nm 2) [2] .nil (.b1 .abs 0 (.var 2)) [some v, w, none]) (ns.map fun i => .d (.int i)) = ret (ns.map fun i => .int (if i < 0 then -i else i)) := by
    intro w
    refine lc_map _ fun x hx => ?_
    simp
  rw [h2]
  simp [alloc, wp]
  refine ⟨(ns.filter fun i => decide (10 ^ 18 ≤ (if i < 0 then -i else i))).map fun i => ((if i < 0 then -i else i) - 10 ^ 18), ns.map fun i => (if i < 0 then -i else i), 0, 0, ?_, ?_, by omega, by omega⟩
  · simp [parts, Function.comp_def]
  · simp [Function.comp_def]
end EV.Sp
end

section
set_option autoImplicit false
set_option linter.all false
set_option maxRecDepth 100000
/-! SpT: rows. -/
namespace EV.Sp
open PySem
/-- rows_of(sizes): 0 sizes 1 found 2 size 3 row 4 level -/
def b_rows_of : Ss :=
 (.cons (.asg (.nm 1) (.lst 0 (.cons (.tup .nil) .nil)))
 (.cons (.for_ (.nm 2) (.val (.var 0))
 (.cons (.asg (.nm 1) (.lc2 0 (.bin .Add (.var 3) (.tup (.cons (.var 4) .nil))) (.nm 3) (.val (.var 1)) .nil (.nm 4) (.rg1 (.var 2)) .nil [3, 4] [4]))
 .nil))
 (.cons (.ret (.var 1))
 .nil)))
noncomputable def c_rows_of : Ctx := ⟨[], []⟩
noncomputable def f_rows_of : Fn := den c_rows_of 1 5 false b_rows_of
/-- is_row(sizes, value): 0 sizes 1 value 2 level 3 size -/
def b_is_row : Ss :=
 (.cons (.ife (.or (.cons (.not (.isi (.var 1) [.tuple])) (.cons (.cmp .NotEq (.b1 .len 0 (.var 1)) (.b1 .len 0 (.var 0))) .nil)))
 (.cons (.ret (.con (.bool false)))
 .nil)
 .nil)
 (.cons (.ret (.b1 .all 0 (.lc1 0 (.and (.cons (.call 0 (.cons (.var 2) .nil)) (.cons (.chn .LtE .Lt (.con (.int 0)) (.var 2) (.var 3)) .nil))) (.tp [2, 3]) (.zip (.var 1) (.var 0)) .nil [2, 3])))
 .nil))
noncomputable def c_is_row : Ctx := ⟨[("is_whole", f_is_whole)], []⟩
noncomputable def f_is_row : Fn := den c_is_row 2 4 false b_is_row
/-- row_count(sizes): 0 sizes 1 found 2 size -/
def b_row_count : Ss :=
 (.cons (.asg (.nm 1) (.con (.int 1)))
 (.cons (.for_ (.nm 2) (.val (.var 0))
 (.cons (.asg (.nm 1) (.bin .Mult (.var 1) (.var 2)))
 .nil))
 (.cons (.ret (.var 1))
 .nil)))
noncomputable def c_row_count : Ctx := ⟨[], []⟩
noncomputable def f_row_count : Fn := den c_row_count 1 3 false b_row_count
/-- _law_rows_of(sizes): 0 sizes 1 found 2 size 3 longer 4 row 5 level -/
def b_law_rows_of : Ss :=
 (.cons (.asg (.nm 1) (.lst 0 (.cons (.tup .nil) .nil)))
 (.cons (.for_ (.nm 2) (.val (.var 0))
 (.cons (.asg (.nm 3) (.lst 0 .nil))
 (.cons (.for_ (.nm 4) (.val (.var 1))
 (.cons (.asg (.nm 3) (.bin .Add (.var 3) (.lc1 0 (.bin .Add (.var 4) (.tup (.cons (.var 5) .nil))) (.nm 5) (.rg1 (.var 2)) .nil [5])))
 .nil))
 (.cons (.asg (.nm 1) (.var 3))
 .nil))))
 (.cons (.ret (.var 1))
 .nil)))
noncomputable def c_law_rows_of : Ctx := ⟨[], []⟩
noncomputable def f_law_rows_of : Fn := den c_law_rows_of 1 6 false b_law_rows_of
/-- are_levels(value): 0 value 1 size -/
def b_are_levels : Ss :=
 (.cons (.ife (.or (.cons (.not (.isi (.var 0) [.tuple])) (.cons (.not (.chn .LtE .LtE (.con (.int 1)) (.b1 .len 0 (.var 0)) (.glb 1))) .nil)))
 (.cons (.ret (.con (.bool false)))
 .nil)
 .nil)
 (.cons (.ret (.b1 .all 0 (.lc1 0 (.and (.cons (.call 0 (.cons (.var 1) .nil)) (.cons (.chn .LtE .LtE (.con (.int 2)) (.var 1) (.glb 0)) .nil))) (.nm 1) (.val (.var 0)) .nil [1])))
 .nil))
noncomputable def c_are_levels : Ctx := ⟨[("is_whole", f_is_whole)], [("MOST_LEVELS", (.int 4)), ("MOST_THINGS", (.int 4))]⟩
noncomputable def f_are_levels : Fn := den c_are_levels 1 2 false b_are_levels
/-- is_sizes(value): 0 value -/
def b_is_sizes : Ss :=
 (.cons (.ret (.and (.cons (.call 1 (.cons (.var 0) .nil)) (.cons (.cmp .LtE (.call 0 (.cons (.var 0) .nil)) (.glb 0)) .nil))))
 .nil)
noncomputable def c_is_sizes : Ctx := ⟨[("row_count", f_row_count), ("are_levels", f_are_levels)], [("MOST_ROWS", (.int 36))]⟩
noncomputable def f_is_sizes : Fn := den c_is_sizes 1 1 false b_is_sizes
/-- all rows -/
def rows : List Nat → List (List Nat)
  | [] => [[]]
  | s :: ss => (List.range s).flatMap fun l => (rows ss).map (l :: ·)
/-- is it a row -/
def inR : List Nat → List Nat → Bool
  | [], [] => true
  | l :: r, s :: ss => decide (l < s) && inR r ss
  | _, _ => false
/-- the product -/
def prod (ss : List Nat) : Nat := ss.foldr (· * ·) 1
theorem mem_rows {sizes r : List Nat} : r ∈ rows sizes ↔ inR r sizes = true := by
  induction sizes generalizing r with
  | nil => cases r <;> simp [rows, inR]
  | cons s ss ih => cases r with
    | nil => simp [rows, inR]
    | cons l r => simp [rows, inR, ih]
theorem len_rows (sizes : List Nat) : (rows sizes).length = prod sizes := by
  induction sizes with
  | nil => rfl
  | cons s ss ih =>
    have : ∀ (l : List Nat), (l.flatMap fun l => (rows ss).map (l :: ·)).length = l.length * prod ss := by
      intro l; induction l with
      | nil => simp
      | cons x l ih2 => simp only [List.flatMap_cons, List.length_append, ih2, List.length_map, ih, List.length_cons, Nat.succ_mul]; omega
    simp only [rows, this, List.length_range]; rfl
theorem inR_len {r sizes : List Nat} (h : inR r sizes = true) : r.length = sizes.length := by
  induction sizes generalizing r with
  | nil => cases r <;> simp_all [inR]
  | cons s ss ih => cases r with
    | nil => simp [inR] at h
    | cons l r => simp [inR] at h; simp [ih h.2]
/-- in the order of the rows -/
def ltN (a b : List Nat) : Bool := lexI (a.map fun i => (i : Nat)) (b.map fun i => (i : Nat))
@[simp] theorem lt_Nt (a b : List Nat) : ltD (Nt a) (Nt b) = some (ltN a b) := by
  have e : ∀ l : List Nat, intsOf (l.map fun n => .int (n : Nat)) = some (l.map fun n : Nat => (n : Int)) := fun l => intsOf_map _ l
  simp only [Nt, ltD, e]; rfl
theorem ltN_cons (x y : Nat) (a b : List Nat) : ltN (x :: a) (y :: b) = if x = y then ltN a b else decide (x < y) := by
  simp only [ltN, List.map_cons, lexI]
  by_cases h : x = y
  · simp [h]
  · have : ¬((x : Int) = y) := by omega
    simp only [h, this, if_false]
    by_cases k : x < y <;> simp [k]
theorem ltN_irrefl (a : List Nat) : ltN a a = false := by
  induction a with
  | nil => rfl
  | cons x a ih => rw [ltN_cons, if_pos rfl, ih]
theorem ltN_trans {a b c : List Nat} (h : ltN a b = true) (k : ltN b c = true) : ltN a c = true := by
  induction a generalizing b c with
  | nil => cases c with
    | nil => cases b <;> simp [ltN, lexI] at k
    | cons z c => rfl
  | cons x a ih =>
    cases b with
    | nil => simp [ltN, lexI] at h
    | cons y b => cases c with
      | nil => simp [ltN, lexI] at k
      | cons z c =>
        rw [ltN_cons] at *
        by_cases e1 : x = y
        · subst e1
          by_cases e2 : x = z
          · subst e2; simp at h k ⊢; exact ih h k
          · simp [e2] at k ⊢; exact k
        · by_cases e2 : y = z
          · subst e2; simp [e1] at h ⊢; exact h
          · simp [e1, e2] at h k
            have : ¬ x = z := by omega
            simp [this]; omega
theorem rows_sorted (sizes : List Nat) : (rows sizes).Pairwise fun a b => ltN a b = true := by
  induction sizes with
  | nil => simp [rows]
  | cons s ss ih =>
    have key : ∀ l : List Nat, l.Pairwise (· < ·) → (l.flatMap fun l => (rows ss).map (l :: ·)).Pairwise fun a b => ltN a b = true := by
      intro l; induction l with
      | nil => simp
      | cons x l ih2 =>
        intro h
        obtain ⟨h1, h2⟩ := List.pairwise_cons.mp h
        simp only [List.flatMap_cons]
        refine List.pairwise_append.mpr ⟨?_, ih2 h2, ?_⟩
        · rw [List.pairwise_map]
          exact ih.imp fun {a b} hab => by rw [ltN_cons, if_pos rfl]; exact hab
        · intro a ha b hb
          obtain ⟨a', _, rfl⟩ := List.mem_map.mp ha
          obtain ⟨y, hy, hb⟩ := List.mem_flatMap.mp hb
          obtain ⟨b', _, rfl⟩ := List.mem_map.mp hb
          have := h1 y hy
          rw [ltN_cons, if_neg (by omega)]; simpa using this
    exact key _ List.pairwise_lt_range
theorem rows_nodup (sizes : List Nat) : (rows sizes).Nodup := (rows_sorted sizes).imp fun {a b} h e => by subst e; rw [ltN_irrefl] at h; cases h
/-- sizes of a table -/
def SzOk (sizes : List Nat) : Prop := 1 ≤ sizes.length ∧ sizes.length ≤ 4 ∧ (∀ s ∈ sizes, 2 ≤ s ∧ s ≤ 4) ∧ prod sizes ≤ 36
/-- the rows by levels put behind -/
def grow (found : List (List Nat)) (size : Nat) : List (List Nat) := found.flatMap fun row => (List.range size).map fun l => row ++ [l]
theorem grow_rows (sizes : List Nat) (found : List (List Nat)) : sizes.foldl grow found = found.flatMap fun row => (rows sizes).map fun r => row ++ r := by
  induction sizes generalizing found with
  | nil => simp only [List.foldl_nil, rows, List.map_cons, List.map_nil, List.append_nil]; induction found <;> simp_all
  | cons s ss ih =>
    simp only [List.foldl_cons, ih, grow, rows]
    rw [List.flatMap_assoc]
    congr 1
    funext row
    simp [List.flatMap_map, List.map_flatMap, Function.comp_def]
theorem grow_all (sizes : List Nat) : sizes.foldl grow [[]] = rows sizes := by rw [grow_rows]; simp
theorem prod_append (a b : List Nat) : prod (a ++ b) = prod a * prod b := by
  induction a with
  | nil => simp [prod]
  | cons x a ih => simp only [List.cons_append]; show x * prod (a ++ b) = x * prod a * prod b; rw [ih, Nat.mul_assoc]
theorem prod_pos {l : List Nat} (h : ∀ s ∈ l, 2 ≤ s ∧ s ≤ 4) : 0 < prod l := by
  induction l with
  | nil => decide
  | cons x l ih =>
    show 0 < x * prod l
    have := h x (by simp)
    exact Nat.mul_pos (by omega) (ih fun y hy => h y (by simp [hy]))
theorem prod_pre {pre post : List Nat} (h : SzOk (pre ++ post)) : prod pre ≤ 36 := by
  have := h.2.2.2
  rw [prod_append] at this
  have := prod_pos (l := post) fun s hs => h.2.2.1 s (by simp [hs])
  exact Nat.le_trans (Nat.le_mul_of_pos_right _ this) (by assumption)
theorem mapd {α : Type} (f : α → Dt) (l : List α) : List.map (fun x => Val.d (f x)) l = (l.map f).map Val.d := by simp
theorem s_rows_of {sizes : List Nat} (h : SzOk sizes) : f_rows_of [.d (Nt sizes)] = ret (.d (.list ((rows sizes).map Nt))) := by
  refine den_ev rfl rfl fun st => ?_
  have e0 : [PyData.tuple []] = [[]].map Nt := rfl
  have ei : itemsD (Nt sizes) = some (sizes.map fun n => .int (n : Nat)) := rfl
  simp [b_rows_of, c_rows_of, ei, Function.comp_def]
  refine wp_floop (fun rest ρ s => s = st ∧ ∃ pre w, sizes = pre ++ rest ∧ ρ = [some (.d (Nt sizes)), some (.d (.list ((rows pre).map Nt))), w, none, none]) ⟨rfl, [], none, rfl, rfl⟩ ?_ ?_
  · rintro x rest _ _ ⟨rfl, pre, w, e, rfl⟩
    refine ⟨fun _ _ => rfl, ?_⟩
    have hx := h.2.2.1 x (by rw [e]; simp)
    have hp : prod pre ≤ 36 := prod_pre (by rw [e] at h; exact h)
    have e2 : rows (pre ++ [x]) = (rows pre).flatMap fun row => (List.range x).map fun l => row ++ [l] := by
      rw [← grow_all, List.foldl_append, grow_all]; rfl
    have lb : (rows pre).length * x ≤ 1000 := by
      rw [len_rows]; exact Nat.le_trans (Nat.mul_le_mul hp hx.2) (by decide)
    simp [Function.comp_def]
    have h1 : comp [] (turn2 { fs := [], gs := [] } (rows pre).length (.nm 3) [3, 4] .nil (.nm 4) (.rg1 (.var 2)) .nil [4] (.bin .Add (.var 3) (.tup (.cons (.var 4) .nil))) [some (.d (Nt sizes)), some (.d (.list ((rows pre).map Nt))), some (.d (.int x)), none, none]) ((rows pre).map fun r => .d (Nt r)) = ret ((rows (pre ++ [x])).map Nt) := by
      rw [e2]
      have := comp_pure (gs := []) (f := turn2 { fs := [], gs := [] } (rows pre).length (.nm 3) [3, 4] .nil (.nm 4) (.rg1 (.var 2)) .nil [4] (.bin .Add (.var 3) (.tup (.cons (.var 4) .nil))) [some (.d (Nt sizes)), some (.d (.list ((rows pre).map Nt))), some (.d (.int x)), none, none]) (enc := fun r => .d (Nt r)) (g := fun row => (List.range x).map fun l => Nt (row ++ [l])) (xs := rows pre) (fun r hr => ?_)
      · rw [this, List.map_flatMap]; simp [Function.comp_def]
      · have hrl : r.length ≤ 4 := by
          rw [inR_len (mem_rows.mp hr)]
          have := h.2.1
          rw [e] at this; simp at this; omega
        rw [turn2_ok (xs := List.range x) (enc := fun i : Nat => .d (.int i)) (gs := []) (fun l => [Nt (r ++ [l])]) rfl (by simp) (by simp; rw [rng_k (by omega)]) (by simpa using lb) (fun l hl => ?_), flatMap_one]
        have hf : fits (r.length + 1) = true := fits_k (by omega)
        simp [Nt, hf]
    rw [h1]
    simp
    exact ⟨pre ++ [x], by simp [e], rfl⟩
  · rintro _ _ ⟨rfl, pre, w, e, rfl⟩
    rw [List.append_nil] at e
    subst e
    exact ⟨fun _ _ => rfl, by simp⟩
end EV.Sp
end

section
set_option autoImplicit false
set_option linter.all false
set_option maxRecDepth 100000
/-! SpU: rows and sizes judged; dicts over rows. -/
namespace EV.Sp
open PySem
/-! ### judged -/
theorem zip_inR (r sizes : List Nat) (h : r.length = sizes.length) : ((r.zip sizes).all fun p => decide (p.1 < p.2)) = inR r sizes := by
  induction r generalizing sizes with
  | nil => cases sizes with
    | nil => rfl
    | cons s ss => simp at h
  | cons l r ih => cases sizes with
    | nil => simp at h
    | cons s ss =>
      simp only [List.length_cons, Nat.add_right_cancel_iff] at h
      simp only [List.zip_cons_cons, List.all_cons, inR, ih ss h]
@[simp] theorem len_Nt (l : List Nat) : b1D .len (Nt l) = some (.int (l.length : Nat)) := by unfold Nt; rw [len_tuple, List.length_map]
@[simp] theorem items_Nt (l : List Nat) : itemsD (Nt l) = some (l.map fun n => .int (n : Nat)) := by unfold Nt; rw [items_tuple]
@[simp] theorem seq_Nt (l : List Nat) : seqD (Nt l) = some (l.map fun n => .int (n : Nat)) := by unfold Nt; rw [seq_tuple]
theorem idx_Nt {l : List Nat} {i : Nat} (h : i < l.length) : idxD (Nt l) (.int (i : Nat)) = some (.int (l[i] : Nat)) := by
  unfold Nt; rw [idx_tuple, at_nat]; simp [h]
theorem zip_maps {α β : Type} (f : α → Dt) (g : β → Dt) (a : List α) (b : List β) : (List.zip (a.map f) (b.map g)).map (fun p => Val.d (.tuple [p.1, p.2])) = (a.zip b).map fun p => Val.d (.tuple [f p.1, g p.2]) := by
  rw [List.zip_map, List.map_map]; rfl
theorem s_is_row (sizes r : List Nat) : f_is_row [.d (Nt sizes), .d (Nt r)] = ret (.d (.bool (inR r sizes))) := by
  refine den_ret rfl rfl (ρ' := [some (.d (Nt sizes)), some (.d (Nt r)), none, none]) ?_
  by_cases h : r.length = sizes.length
  · have h1 : comp [] (turn1 c_is_row (.tp [2, 3]) [2, 3] .nil (.and (.cons (.call 0 (.cons (.var 2) .nil)) (.cons (.chn .LtE .Lt (.con (.int 0)) (.var 2) (.var 3)) .nil))) [some (.d (Nt sizes)), some (.d (Nt r)), none, none]) ((r.zip sizes).map fun p => Val.d (.tuple [.int (p.1 : Nat), .int (p.2 : Nat)])) = ret ((r.zip sizes).map fun p => .bool (decide (p.1 < p.2))) := by
      refine lc_map _ fun p hp => ?_
      simp [c_is_row]
    simp only [c_is_row] at h1
    simp [b_is_row, c_is_row, subTy, h, zip_maps, h1, boolsOf_map, List.all_map, Function.comp_def, ← zip_inR r sizes h]
  · have : inR r sizes = false := by
      cases e : inR r sizes with
      | false => rfl
      | true => exact absurd (inR_len e) h
    have h' : ¬((r.length : Int) = sizes.length) := by omega
    simp [b_is_row, c_is_row, subTy, h, h', this]
theorem s_row_count {sizes : List Nat} (h : SzOk sizes) : f_row_count [.d (Nt sizes)] = ret (.d (.int (prod sizes : Nat))) := by
  refine den_ev rfl rfl fun st => ?_
  simp [b_row_count, c_row_count, Function.comp_def]
  refine wp_floop (fun rest ρ s => s = st ∧ ∃ pre w, sizes = pre ++ rest ∧ ρ = [some (.d (Nt sizes)), some (.d (.int (prod pre : Nat))), w]) ⟨rfl, [], none, rfl, rfl⟩ ?_ ?_
  · rintro x rest _ _ ⟨rfl, pre, w, e, rfl⟩
    refine ⟨fun _ _ => rfl, ?_⟩
    have hp : prod pre ≤ 36 := prod_pre (by rw [e] at h; exact h)
    have m : mulOk (prod pre : Nat) x = true := mulOk_left (by simp; omega)
    simp [m]
    exact ⟨pre ++ [x], by simp [e], by rw [prod_append]; simp [prod]⟩
  · rintro _ _ ⟨rfl, pre, w, e, rfl⟩
    rw [List.append_nil] at e
    subst e
    exact ⟨fun _ _ => rfl, by simp⟩
theorem s_are_levels {sizes : List Nat} (h : SzOk sizes) : f_are_levels [.d (Nt sizes)] = ret (.d (.bool true)) := by
  refine den_ret rfl rfl (ρ' := [some (.d (Nt sizes)), none]) ?_
  have h1 : comp [] (turn1 c_are_levels (.nm 1) [1] .nil (.and (.cons (.call 0 (.cons (.var 1) .nil)) (.cons (.chn .LtE .LtE (.con (.int 2)) (.var 1) (.glb 0)) .nil))) [some (.d (Nt sizes)), none]) (sizes.map fun n => .d (.int (n : Nat))) = ret (sizes.map fun n => .bool true) := by
    refine lc_map _ fun n hn => ?_
    have hx := h.2.2.1 n hn
    have h2 : (2 : Int) ≤ n := by omega
    have h4 : (n : Int) ≤ 4 := by omega
    simp [c_are_levels, h2, h4]
  simp only [c_are_levels] at h1
  have a1 : (1 : Int) ≤ sizes.length := by have := h.1; omega
  have a4 : (sizes.length : Int) ≤ 4 := by have := h.2.1; omega
  simp [b_are_levels, c_are_levels, subTy, a1, a4, Function.comp_def, h1, boolsOf_map]
theorem s_is_sizes {sizes : List Nat} (h : SzOk sizes) : f_is_sizes [.d (Nt sizes)] = ret (.d (.bool true)) := by
  refine den_ret rfl rfl (ρ' := [some (.d (Nt sizes))]) ?_
  have := h.2.2.2
  have h36 : (prod sizes : Int) ≤ 36 := by omega
  simp [b_is_sizes, c_is_sizes, s_are_levels h, s_row_count h, h36]
theorem len_grow (x : Nat) (l : List (List Nat)) : (l.flatMap fun row => (List.range x).map fun i => row ++ [i]).length = l.length * x := by
  induction l with
  | nil => simp
  | cons a l ih => simp only [List.flatMap_cons, List.length_append, ih, List.length_map, List.length_range, List.length_cons, Nat.succ_mul]; omega
theorem s_law_rows_of {sizes : List Nat} (h : SzOk sizes) : f_law_rows_of [.d (Nt sizes)] = ret (.d (.list ((rows sizes).map Nt))) := by
  refine den_ev rfl rfl fun st => ?_
  have e0 : [PyData.tuple []] = [[]].map Nt := rfl
  simp [b_law_rows_of, c_law_rows_of, Function.comp_def]
  refine wp_floop (fun rest ρ s => s = st ∧ ∃ pre w1 w2 w3, sizes = pre ++ rest ∧ ρ = [some (.d (Nt sizes)), some (.d (.list ((rows pre).map Nt))), w1, w2, w3, none]) ⟨rfl, [], none, none, none, rfl, rfl⟩ ?_ ?_
  · rintro x rest _ st ⟨rfl, pre, w1, w2, w3, e, rfl⟩
    refine ⟨fun _ _ => rfl, ?_⟩
    have hx := h.2.2.1 x (by rw [e]; simp)
    have hp : prod pre ≤ 36 := prod_pre (by rw [e] at h; exact h)
    have e2 : rows (pre ++ [x]) = (rows pre).flatMap fun row => (List.range x).map fun l => row ++ [l] := by
      rw [← grow_all, List.foldl_append, grow_all]; rfl
    simp [Function.comp_def]
    refine wp_floop (fun rest2 ρ s => s = st ∧ ∃ pre2 w3, rows pre = pre2 ++ rest2 ∧ ρ = [some (.d (Nt sizes)), some (.d (.list ((rows pre).map Nt))), some (.d (.int x)), some (.d (.list ((pre2.flatMap fun row => (List.range x).map fun l => row ++ [l]).map Nt))), w3, none]) ⟨rfl, [], w3, rfl, rfl⟩ ?_ ?_
    · rintro r rest2 _ _ ⟨rfl, pre2, w3, e3, rfl⟩
      refine ⟨fun _ _ => rfl, ?_⟩
      have hr : r ∈ rows pre := by rw [e3]; simp
      have hrl : r.length ≤ 4 := by
        rw [inR_len (mem_rows.mp hr)]
        have := h.2.1
        rw [e] at this; simp at this; omega
      have hf : fits (r.length + 1) = true := fits_k (by omega)
      have h1 : ∀ w, comp [] (turn1 { fs := [], gs := [] } (.nm 5) [5] .nil (.bin .Add (.var 4) (.tup (.cons (.var 5) .nil))) [some (.d (Nt sizes)), some (.d (.list ((rows pre).map Nt))), some (.d (.int x)), w, some (.d (Nt r)), none]) ((List.range x).map fun l => Val.d (.int (l : Nat))) = ret ((List.range x).map fun l => Nt (r ++ [l])) := by
        intro w
        refine lc_map _ fun l hl => ?_
        simp [Nt, hf]
      have len1 := len_grow x pre2
      have len2 : pre2.length ≤ 36 := by
        have := congrArg List.length e3
        rw [len_rows, List.length_append] at this; omega
      have lb : pre2.length * x + x ≤ 1000 := by
        have := Nat.mul_le_mul len2 hx.2; omega
      have hf2 : fits ((pre2.flatMap fun row => (List.range x).map fun l => row ++ [l]).length + x) = true := by rw [len1]; exact fits_k lb
      simp only [List.length_flatMap, List.length_map, List.length_range] at hf2
      simp [rng_k (n := x) (by omega), h1, hf2]
      exact ⟨pre2 ++ [r], by simp [e3], by simp [Function.comp_def]⟩
    · rintro _ _ ⟨rfl, pre2, w3, e3, rfl⟩
      rw [List.append_nil] at e3
      subst e3
      refine ⟨fun _ _ => rfl, ?_⟩
      simp
      exact ⟨pre ++ [x], by simp [e], by rw [e2]⟩
  · rintro _ _ ⟨rfl, pre, w1, w2, w3, e, rfl⟩
    rw [List.append_nil] at e
    subst e
    exact ⟨fun _ _ => rfl, by simp⟩
end EV.Sp
end

section
set_option autoImplicit false
set_option linter.all false
set_option maxRecDepth 100000
/-! SpV: dicts over rows, tables. -/
namespace EV.Sp
open PySem
/-- are_row_keys(sizes, value): 0 sizes 1 value 2 row -/
def b_are_row_keys : Ss :=
 (.cons (.ife (.or (.cons (.not (.isi (.var 1) [.dict])) (.cons (.cmp .NotEq (.b1 .len 0 (.var 1)) (.call 1 (.cons (.var 0) .nil))) .nil)))
 (.cons (.ret (.con (.bool false)))
 .nil)
 .nil)
 (.cons (.ret (.b1 .all 0 (.lc1 0 (.call 0 (.cons (.var 0) (.cons (.var 2) .nil))) (.nm 2) (.val (.var 1)) .nil [2])))
 .nil))
noncomputable def c_are_row_keys : Ctx := ⟨[("is_row", f_is_row), ("row_count", f_row_count)], []⟩
noncomputable def f_are_row_keys : Fn := den c_are_row_keys 2 3 false b_are_row_keys
/-- is_table(value): 0 value 1 row -/
def b_is_table : Ss :=
 (.cons (.ife (.or (.cons (.not (.isi (.var 0) [.tuple])) (.cons (.cmp .NotEq (.b1 .len 0 (.var 0)) (.con (.int 3))) (.cons (.not (.isi (.idx (.var 0) (.con (.int 0))) [.str])) (.cons (.cmp .NotEq (.idx (.var 0) (.con (.int 0))) (.con (.str "table"))) .nil)))))
 (.cons (.ret (.con (.bool false)))
 .nil)
 .nil)
 (.cons (.ife (.or (.cons (.not (.call 3 (.cons (.idx (.var 0) (.con (.int 1))) .nil))) (.cons (.not (.call 2 (.cons (.idx (.var 0) (.con (.int 1))) (.cons (.idx (.var 0) (.con (.int 2))) .nil)))) .nil)))
 (.cons (.ret (.con (.bool false)))
 .nil)
 .nil)
 (.cons (.ife (.not (.b1 .all 0 (.lc1 0 (.call 1 (.cons (.idx (.idx (.var 0) (.con (.int 2))) (.var 1)) .nil)) (.nm 1) (.val (.idx (.var 0) (.con (.int 2)))) .nil [1])))
 (.cons (.ret (.con (.bool false)))
 .nil)
 .nil)
 (.cons (.ret (.cmp .Eq (.call 0 (.cons (.b1 .listvals 0 (.idx (.var 0) (.con (.int 2)))) .nil)) (.glb 0)))
 .nil))))
noncomputable def c_is_table : Ctx := ⟨[("total", f_total), ("is_chance", f_is_chance), ("are_row_keys", f_are_row_keys), ("is_sizes", f_is_sizes)], [("ONE", (.tuple [(.int 1), (.int 1)]))]⟩
noncomputable def f_is_table : Fn := den c_is_table 1 2 false b_is_table
/-- need_table(table): 0 table -/
def b_need_table : Ss :=
 (.cons (.ife (.not (.call 0 (.cons (.var 0) .nil)))
 (.cons .nev
 .nil)
 .nil)
 .nil)
noncomputable def c_need_table : Ctx := ⟨[("is_table", f_is_table)], []⟩
noncomputable def f_need_table : Fn := den c_need_table 1 1 false b_need_table
/-- is_event(sizes, value): 0 sizes 1 value 2 one 3 other 4 row -/
def b_is_event : Ss :=
 (.cons (.ife (.or (.cons (.not (.isi (.var 1) [.tuple])) (.cons (.not (.b1 .all 0 (.lc1 0 (.call 0 (.cons (.var 0) (.cons (.var 4) .nil))) (.nm 4) (.val (.var 1)) .nil [4]))) .nil)))
 (.cons (.ret (.con (.bool false)))
 .nil)
 .nil)
 (.cons (.ret (.b1 .all 0 (.lc1 0 (.cmp .Lt (.var 2) (.var 3)) (.tp [2, 3]) (.zip (.var 1) (.sli (.var 1) (.some (.con (.int 1))) .none)) .nil [2, 3])))
 .nil))
noncomputable def c_is_event : Ctx := ⟨[("is_row", f_is_row)], []⟩
noncomputable def f_is_event : Fn := den c_is_event 2 5 false b_is_event
/-- need_event(sizes, event): 0 sizes 1 event -/
def b_need_event : Ss :=
 (.cons (.ife (.not (.call 0 (.cons (.var 0) (.cons (.var 1) .nil))))
 (.cons .nev
 .nil)
 .nil)
 .nil)
noncomputable def c_need_event : Ctx := ⟨[("is_event", f_is_event)], []⟩
noncomputable def f_need_event : Fn := den c_need_event 2 2 false b_need_event
/-- part_of(chances, event): 0 chances 1 event 2 row -/
def b_part_of : Ss :=
 (.cons (.ret (.call 0 (.cons (.lc1 0 (.idx (.var 0) (.var 2)) (.nm 2) (.val (.var 1)) .nil [2]) .nil)))
 .nil)
noncomputable def c_part_of : Ctx := ⟨[("total", f_total)], []⟩
noncomputable def f_part_of : Fn := den c_part_of 2 3 false b_part_of
/-- chance_of(table, event): 0 table 1 event -/
def b_chance_of : Ss :=
 (.cons (.exp (.call 2 (.cons (.var 0) .nil)))
 (.cons (.exp (.call 1 (.cons (.idx (.var 0) (.con (.int 1))) (.cons (.var 1) .nil))))
 (.cons (.ret (.call 0 (.cons (.idx (.var 0) (.con (.int 2))) (.cons (.var 1) .nil))))
 .nil)))
noncomputable def c_chance_of : Ctx := ⟨[("part_of", f_part_of), ("need_event", f_need_event), ("need_table", f_need_table)], []⟩
noncomputable def f_chance_of : Fn := den c_chance_of 2 2 false b_chance_of
/-- given(table, event): 0 table 1 event 2 part 3 found 4 row -/
def b_given : Ss :=
 (.cons (.par [2, 3] (.cons (.call 2 (.cons (.idx (.var 0) (.con (.int 2))) (.cons (.var 1) .nil))) (.cons (.dct 1 .nil) .nil)))
 (.cons (.for_ (.nm 4) (.val (.call 0 (.cons (.idx (.var 0) (.con (.int 1))) .nil)))
 (.cons (.sub (.var 3) (.var 4) (.ife (.cmp .In (.var 4) (.var 1)) (.call 1 (.cons (.idx (.idx (.var 0) (.con (.int 2))) (.var 4)) (.cons (.var 2) .nil))) (.glb 0)))
 .nil))
 (.cons (.ret (.tup (.cons (.con (.str "table")) (.cons (.idx (.var 0) (.con (.int 1))) (.cons (.frz (.var 3)) .nil)))))
 .nil)))
noncomputable def c_given : Ctx := ⟨[("rows_of", f_rows_of), ("over", f_over), ("part_of", f_part_of)], [("ZERO", (.tuple [(.int 0), (.int 1)]))]⟩
noncomputable def f_given : Fn := den c_given 2 5 false b_given
/-- behind(table, event): 0 table 1 event -/
def b_behind : Ss :=
 (.cons (.exp (.call 3 (.cons (.var 0) .nil)))
 (.cons (.exp (.call 2 (.cons (.idx (.var 0) (.con (.int 1))) (.cons (.var 1) .nil))))
 (.cons (.ife (.cmp .Eq (.call 1 (.cons (.idx (.var 0) (.con (.int 2))) (.cons (.var 1) .nil))) (.glb 0))
 (.cons .nev
 .nil)
 .nil)
 (.cons (.ret (.call 0 (.cons (.var 0) (.cons (.var 1) .nil))))
 .nil))))
noncomputable def c_behind : Ctx := ⟨[("given", f_given), ("part_of", f_part_of), ("need_event", f_need_event), ("need_table", f_need_table)], [("ZERO", (.tuple [(.int 0), (.int 1)]))]⟩
noncomputable def f_behind : Fn := den c_behind 2 2 false b_behind
/-! ### keys -/
theorem nks_ints (l : List Nat) : nks (l.map fun n => .int (n : Nat)) = some (l.map fun n => .num (n : Nat)) := by
  induction l with
  | nil => simp [nks]
  | cons x l ih => simp [nks, nk, ih]
theorem depth_nums (l : List Nat) : NestedKey.depthAll (l.map fun n => .num (n : Nat)) = 0 := by
  induction l with
  | nil => simp [NestedKey.depthAll]
  | cons x l ih => simp [NestedKey.depthAll, NestedKey.depth, ih]
@[simp] theorem tupKey_Nt (l : List Nat) : tupKey (Nt l) = true := by
  unfold Nt tupKey; simp only [nks_ints, depth_nums]; rfl
@[simp] theorem flatKey_Nt (l : List Nat) : flatKey (Nt l) = false := by unfold Nt flatKey; rfl
section
variable {κ : Type} {ek ev : κ → Dt}
theorem keyFor_map {ks : List κ} {k : κ} (h : ∀ k, tupKey (ek k) = true) : keyFor (ks.map fun k => (ek k, ev k)) (ek k) = true := by
  cases ks with
  | nil => simp [keyFor, h]
  | cons x ks => simp [keyFor, h]
variable [DecidableEq κ]
theorem dget_map {ks : List κ} {k : κ} (he : ∀ a b, PyData.eqv (ek a) (ek b) = decide (a = b)) (h : k ∈ ks) : dget (ks.map fun k => (ek k, ev k)) (ek k) = some (ev k) := by
  induction ks with
  | nil => cases h
  | cons x ks ih =>
    unfold dget at ih ⊢
    simp only [List.map_cons, List.find?_cons, he]
    by_cases e : x = k
    · subst e; simp
    · simp only [e, decide_false]
      exact ih ((List.mem_cons.mp h).resolve_left fun z => e z.symm)
theorem dget_none {ks : List κ} {k : κ} (he : ∀ a b, PyData.eqv (ek a) (ek b) = decide (a = b)) (h : k ∉ ks) : dget (ks.map fun k => (ek k, ev k)) (ek k) = none := by
  induction ks with
  | nil => rfl
  | cons x ks ih =>
    unfold dget at ih ⊢
    simp only [List.map_cons, List.find?_cons, he]
    have e : x ≠ k := fun z => h (by simp [z])
    simp only [e, decide_false]
    exact ih fun z => h (by simp [z])
theorem dhas_map {ks : List κ} {k : κ} (he : ∀ a b, PyData.eqv (ek a) (ek b) = decide (a = b)) : dhas (ks.map fun k => (ek k, ev k)) (ek k) = decide (k ∈ ks) := by
  unfold dhas
  by_cases h : k ∈ ks
  · rw [dget_map he h]; simp [h]
  · rw [dget_none he h]; simp [h]
/-- a new key -/
theorem dputs_new {ks : List κ} {k : κ} {v : Dt} (ht : ∀ k, tupKey (ek k) = true) (he : ∀ a b, PyData.eqv (ek a) (ek b) = decide (a = b)) (h : k ∉ ks) (hl : ks.length ≤ 1000) : dputs (ks.map fun k => (ek k, ev k)) (ek k) v = some ((ks.map fun k => (ek k, ev k)) ++ [(ek k, v)]) := by
  unfold dputs dput
  rw [dhas_map he, keyFor_map ht]
  have : ks.length < sizeLine := by rw [sl]; exact Nat.lt_of_le_of_lt hl (by decide)
  simp [h, this]
theorem dputAll_map {ks pre : List κ} (ht : ∀ k, tupKey (ek k) = true) (he : ∀ a b, PyData.eqv (ek a) (ek b) = decide (a = b)) (hn : (pre ++ ks).Nodup) (hl : (pre ++ ks).length ≤ 1000) : dputAll (pre.map fun k => (ek k, ev k)) (ks.map fun k => (ek k, ev k)) = some ((pre ++ ks).map fun k => (ek k, ev k)) := by
  induction ks generalizing pre with
  | nil => simp [dputAll]
  | cons x ks ih =>
    simp only [List.map_cons, dputAll]
    have hx : x ∉ pre := fun z => by
      have := List.nodup_append.mp hn
      exact this.2.2 x z x (by simp) rfl
    rw [dputs_new ht he hx (by simp at hl; omega), Option.bind_some]
    have := ih (pre := pre ++ [x]) (by simpa using hn) (by simpa using hl)
    simpa using this
end
theorem pairsOf_map {α : Type} (f g : α → Dt) (l : List α) : pairsOf (l.map fun x => .tuple [f x, g x]) = some (l.map fun x => (f x, g x)) := by
  induction l with
  | nil => rfl
  | cons x l ih => simp [pairsOf, pairOf, ih]
theorem mem_Nt (l : List (List Nat)) (r : List Nat) : memD (Nt r) (l.map Nt) = decide (r ∈ l) := by
  induction l with
  | nil => rfl
  | cons x l ih =>
    unfold memD at ih ⊢
    simp only [List.map_cons, List.any_cons, eqv_Nt, ih, List.mem_cons]
    by_cases h : x = r
    · simp [h]
    · have : ¬ r = x := fun z => h z.symm
      simp [h, this]
theorem Nt_ok (r : List Nat) : (Nt r).canLay0 = true ∧ (Nt r).depth ≤ 1 := by
  have := shaped_Nt r
  unfold Nt
  constructor
  · simp only [PyData.canLay0]; exact canLayAll_map fun x _ => rfl
  · simp only [PyData.depth]; exact Nat.succ_le_succ (depthAll_map (n := 0) fun x _ => by simp [PyData.depth])
@[simp] theorem shaped_Nts (l : List (List Nat)) : shaped (.tuple (l.map Nt)) = true := shaped_tuple 1 (by decide) fun x _ => Nt_ok x
@[simp] theorem shaped_Ntl (l : List (List Nat)) : shaped (.list (l.map Nt)) = true := shaped_list 1 (by decide) fun x _ => Nt_ok x
/-! ### tables -/
abbrev Row := List Nat
/-- a dict of ratios over rows -/
def Dp (sizes : List Nat) (p : Row → Rat) : Dt := .dict ((rows sizes).map fun r => (Nt r, R (p r)))
def Tb (sizes : List Nat) (p : Row → Rat) : Dt := .tuple [.str "table", Nt sizes, Dp sizes p]
/-- an event -/
def Ev (sizes : List Nat) (c : Row → Bool) : Dt := .tuple (((rows sizes).filter c).map Nt)
/-- its chance -/
def pr (sizes : List Nat) (p : Row → Rat) (c : Row → Bool) : Rat := (((rows sizes).filter c).map p).sum
structure TbOk (sizes : List Nat) (p : Row → Rat) : Prop where
  sz : SzOk sizes
  fr : ∃ D, D ≠ 0 ∧ D < 2 ^ 4000 ∧ ∀ r ∈ rows sizes, Fr D (p r)
  one : ((rows sizes).map p).sum = 1
@[simp] theorem idx_Tb0 (sizes : List Nat) (p : Row → Rat) : idxD (Tb sizes p) (.int 0) = some (.str "table") := (rfl)
@[simp] theorem idx_Tb1 (sizes : List Nat) (p : Row → Rat) : idxD (Tb sizes p) (.int 1) = some (Nt sizes) := (rfl)
@[simp] theorem idx_Tb2 (sizes : List Nat) (p : Row → Rat) : idxD (Tb sizes p) (.int 2) = some (Dp sizes p) := (rfl)
@[simp] theorem ty_Tb (sizes : List Nat) (p : Row → Rat) : tyD (Tb sizes p) = .tuple := (rfl)
@[simp] theorem ty_Dp (sizes : List Nat) (p : Row → Rat) : tyD (Dp sizes p) = .dict := (rfl)
@[simp] theorem ty_Ev (sizes : List Nat) (p : Row → Bool) : tyD (Ev sizes p) = .tuple := (rfl)
@[simp] theorem len_Tb (sizes : List Nat) (p : Row → Rat) : b1D .len (Tb sizes p) = some (.int 3) := (rfl)
@[simp] theorem len_Dp (sizes : List Nat) (p : Row → Rat) : b1D .len (Dp sizes p) = some (.int (prod sizes : Nat)) := by
  unfold Dp; rw [len_dict, List.length_map, len_rows]
@[simp] theorem items_Dp (sizes : List Nat) (p : Row → Rat) : itemsD (Dp sizes p) = some ((rows sizes).map Nt) := by
  unfold Dp; rw [items_dict, List.map_map]; rfl
@[simp] theorem vals_Dp (sizes : List Nat) (p : Row → Rat) : b1D .listvals (Dp sizes p) = some (.list (((rows sizes).map p).map R)) := by
  unfold Dp; rw [listvals_dict, List.map_map, List.map_map]; rfl
theorem idx_Dp {sizes : List Nat} {p : Row → Rat} {r : Row} (h : r ∈ rows sizes) : idxD (Dp sizes p) (Nt r) = some (R (p r)) := by
  unfold Dp; rw [idx_dict, keyFor_map (ek := Nt) tupKey_Nt, if_pos rfl, dget_map (ek := Nt) (ev := fun r => R (p r)) eqv_Nt h]
theorem in_Dp (sizes : List Nat) (p : Row → Rat) (r : Row) : cmpD .In (Nt r) (Dp sizes p) = some (decide (r ∈ rows sizes)) := by
  unfold Dp; rw [cmp_in_dict, keyFor_map (ek := Nt) tupKey_Nt, if_pos rfl, dhas_map (ek := Nt) (ev := fun r => R (p r)) eqv_Nt]
  exact congrArg some (decide_eq_decide.mpr Iff.rfl)
theorem in_Ev {sizes : List Nat} {c : Row → Bool} {r : Row} (h : r ∈ rows sizes) : cmpD .In (Nt r) (Ev sizes c) = some (c r) := by
  unfold Ev; rw [cmp_in_tuple (shaped_Nt r) (shaped_Nts _), mem_Nt]
  simp [List.mem_filter, h]
@[simp] theorem items_Ev (sizes : List Nat) (c : Row → Bool) : itemsD (Ev sizes c) = some (((rows sizes).filter c).map Nt) := by unfold Ev; rw [items_tuple]
@[simp] theorem seq_Ev (sizes : List Nat) (c : Row → Bool) : seqD (Ev sizes c) = some (((rows sizes).filter c).map Nt) := by unfold Ev; rw [seq_tuple]
@[simp] theorem shaped_Ev (sizes : List Nat) (c : Row → Bool) : shaped (Ev sizes c) = true := by unfold Ev; exact shaped_Nts _
/-! ### judged -/
theorem s_are_row_keys {sizes : List Nat} {p : Row → Rat} (h : SzOk sizes) : f_are_row_keys [.d (Nt sizes), .d (Dp sizes p)] = ret (.d (.bool true)) := by
  refine den_ret rfl rfl (ρ' := [some (.d (Nt sizes)), some (.d (Dp sizes p)), none]) ?_
  have h1 : comp [] (turn1 c_are_row_keys (.nm 2) [2] .nil (.call 0 (.cons (.var 0) (.cons (.var 2) .nil))) [some (.d (Nt sizes)), some (.d (Dp sizes p)), none]) ((rows sizes).map fun r => Val.d (Nt r)) = ret ((rows sizes).map fun r => .bool true) := by
    refine lc_map _ fun r hr => ?_
    simp [c_are_row_keys, s_is_row, mem_rows.mp hr]
  simp only [c_are_row_keys] at h1
  simp [b_are_row_keys, c_are_row_keys, subTy, s_row_count h, Function.comp_def, h1, boolsOf_map]
theorem le_sum {xs : List Rat} (h : ∀ x ∈ xs, 0 ≤ x) {x : Rat} (hx : x ∈ xs) : x ≤ xs.sum := by
  obtain ⟨a, b, rfl⟩ := List.append_of_mem hx
  rw [sum_append, List.sum_cons]
  have n1 : 0 ≤ a.sum := sum_nonneg fun y hy => h y (by simp [hy])
  have n2 : 0 ≤ b.sum := sum_nonneg fun y hy => h y (by simp [hy])
  grind
theorem TbOk.nonneg {sizes : List Nat} {p : Row → Rat} (h : TbOk sizes p) {r : Row} (hr : r ∈ rows sizes) : 0 ≤ p r := by
  obtain ⟨D, _, _, f⟩ := h.fr; exact (f r hr).nonneg
theorem TbOk.ch {sizes : List Nat} {p : Row → Rat} (h : TbOk sizes p) {r : Row} (hr : r ∈ rows sizes) : Ch (p r) := by
  refine ⟨h.nonneg hr, ?_⟩
  rw [← h.one]
  exact le_sum (fun x hx => by obtain ⟨r', hr', rfl⟩ := List.mem_map.mp hx; exact h.nonneg hr') (List.mem_map_of_mem hr)
theorem TbOk.sms {sizes : List Nat} {p : Row → Rat} (h : TbOk sizes p) : Sms ((rows sizes).map p) := by
  obtain ⟨D, d0, dl, f⟩ := h.fr
  exact Sms_of d0 dl (fun x hx => by obtain ⟨r', hr', rfl⟩ := List.mem_map.mp hx; exact f r' hr') (by rw [h.one]; exact Rat.le_refl)
theorem shaped_table : shaped (.str "table") = true := by rw [shaped_iff]; decide +kernel
theorem mf {α : Type} {c : α → Bool} {l : List α} {r : α} (h : r ∈ l.filter c) : r ∈ l := (List.mem_filter.mp h).1
theorem s_total_map {α : Type} {f : α → Rat} {l : List α} (h : Sms (l.map f)) : f_total [.d (.list (l.map fun x => R (f x)))] = ret (.d (R (l.map f).sum)) := by
  rw [← s_total h, List.map_map]; rfl
theorem s_is_table {sizes : List Nat} {p : Row → Rat} (h : TbOk sizes p) : f_is_table [.d (Tb sizes p)] = ret (.d (.bool true)) := by
  refine den_ret rfl rfl (ρ' := [some (.d (Tb sizes p)), none]) ?_
  have h1 : comp [] (turn1 c_is_table (.nm 1) [1] .nil (.call 1 (.cons (.idx (.idx (.var 0) (.con (.int 2))) (.var 1)) .nil)) [some (.d (Tb sizes p)), none]) ((rows sizes).map fun r => Val.d (Nt r)) = ret ((rows sizes).map fun r => .bool true) := by
    refine lc_map _ fun r hr => ?_
    simp [c_is_table, idx_Dp hr, h.ch hr]
  simp only [c_is_table, R1] at h1
  simp [b_is_table, c_is_table, subTy, shaped_table, s_is_sizes h.sz, s_are_row_keys h.sz, Function.comp_def, h1, boolsOf_map, s_total_map h.sms, h.one, R1]
@[simp] theorem s_need_table {sizes : List Nat} {p : Row → Rat} (h : TbOk sizes p) : f_need_table [.d (Tb sizes p)] = ret (.d .none) := by
  refine den_nx rfl rfl (ρ' := [some (.d (Tb sizes p))]) ?_
  simp [b_need_table, c_need_table, s_is_table h]
theorem pair_next {l : List Row} (h : l.Pairwise fun a b => ltN a b = true) : (l.zip (l.drop 1)).all (fun q => ltN q.1 q.2) = true := by
  induction l with
  | nil => rfl
  | cons x l ih => cases l with
    | nil => rfl
    | cons y l =>
      obtain ⟨h1, h2⟩ := List.pairwise_cons.mp h
      have := ih h2
      simp only [List.drop_succ_cons, List.drop_zero, List.zip_cons_cons, List.all_cons, Bool.and_eq_true] at this ⊢
      exact ⟨h1 y (by simp), this⟩
theorem s_is_event (sizes : List Nat) (c : Row → Bool) : f_is_event [.d (Nt sizes), .d (Ev sizes c)] = ret (.d (.bool true)) := by
  refine den_ret rfl rfl (ρ' := [some (.d (Nt sizes)), some (.d (Ev sizes c)), none, none, none]) ?_
  have h1 : comp [] (turn1 c_is_event (.nm 4) [4] .nil (.call 0 (.cons (.var 0) (.cons (.var 4) .nil))) [some (.d (Nt sizes)), some (.d (Ev sizes c)), none, none, none]) (((rows sizes).filter c).map fun r => Val.d (Nt r)) = ret (((rows sizes).filter c).map fun r => .bool true) := by
    refine lc_map _ fun r hr => ?_
    have hr' := mem_rows.mp (mf hr)
    simp [c_is_event, s_is_row, hr']
  have h2 : comp [] (turn1 c_is_event (.tp [2, 3]) [2, 3] .nil (.cmp .Lt (.var 2) (.var 3)) [some (.d (Nt sizes)), some (.d (Ev sizes c)), none, none, none]) ((((rows sizes).filter c).zip ((rows sizes).filter c).tail).map fun q => Val.d (.tuple [Nt q.1, Nt q.2])) = ret ((((rows sizes).filter c).zip ((rows sizes).filter c).tail).map fun q => .bool (ltN q.1 q.2)) := by
    refine lc_map _ fun q hq => ?_
    simp
  have h3 : sliD (Ev sizes c) (some 1) none = some (.tuple (((rows sizes).filter c).tail.map Nt)) := by
    unfold Ev; rw [sli_tuple]; rw [show (some (1 : Int)) = some ((1 : Nat) : Int) from rfl, cut_from, ← List.map_drop, List.drop_one]
  simp only [c_is_event] at h1 h2
  have hs := pair_next ((rows_sorted sizes).sublist List.filter_sublist (l₁ := (rows sizes).filter c))
  rw [List.drop_one] at hs
  simp [b_is_event, c_is_event, subTy, Function.comp_def, h1, boolsOf_map, h3]
  simp only [← List.map_tail, zip_maps, h2]
  simp only [boolsOf_map, Option.map_some, opt_some, bnd_ret, List.all_map, Function.comp_def, id]
  rw [hs]
theorem s_need_event (sizes : List Nat) (c : Row → Bool) : f_need_event [.d (Nt sizes), .d (Ev sizes c)] = ret (.d .none) := by
  refine den_nx rfl rfl (ρ' := [some (.d (Nt sizes)), some (.d (Ev sizes c))]) ?_
  simp [b_need_event, c_need_event, s_is_event]
/-! ### chances of events -/
theorem sum_sub {xs ys : List Rat} (h : xs.Sublist ys) (hy : ∀ y ∈ ys, 0 ≤ y) : xs.sum ≤ ys.sum := by
  induction h with
  | slnil => exact Rat.le_refl
  | cons a h ih =>
    rw [List.sum_cons]
    have := hy a (by simp)
    have := ih fun y hy' => hy y (by simp [hy'])
    grind
  | cons_cons a h ih =>
    rw [List.sum_cons, List.sum_cons]
    have := ih fun y hy' => hy y (by simp [hy'])
    grind
theorem TbOk.sms_sub {sizes : List Nat} {p : Row → Rat} (h : TbOk sizes p) (c : Row → Bool) : Sms (((rows sizes).filter c).map p) := by
  obtain ⟨D, d0, dl, f⟩ := h.fr
  refine Sms_of d0 dl (fun x hx => by obtain ⟨r', hr', rfl⟩ := List.mem_map.mp hx; exact f r' (mf hr')) ?_
  rw [← h.one]
  exact sum_sub (List.Sublist.map p List.filter_sublist) fun y hy => by obtain ⟨r', hr', rfl⟩ := List.mem_map.mp hy; exact h.nonneg hr'
theorem s_part_list {sizes : List Nat} {p : Row → Rat} (h : TbOk sizes p) (c : Row → Bool) : f_part_of [.d (Dp sizes p), .d (.list (((rows sizes).filter c).map Nt))] = ret (.d (R (pr sizes p c))) := by
  refine den_ret rfl rfl (ρ' := [some (.d (Dp sizes p)), some (.d (.list (((rows sizes).filter c).map Nt))), none]) ?_
  have h1 : comp [] (turn1 c_part_of (.nm 2) [2] .nil (.idx (.var 0) (.var 2)) [some (.d (Dp sizes p)), some (.d (.list (((rows sizes).filter c).map Nt))), none]) (((rows sizes).filter c).map fun r => Val.d (Nt r)) = ret (((rows sizes).filter c).map fun r => R (p r)) := by
    refine lc_map _ fun r hr => ?_
    simp [c_part_of, idx_Dp (mf hr)]
  simp only [c_part_of] at h1
  simp [b_part_of, c_part_of, Function.comp_def, h1, s_total_map (h.sms_sub c), pr]
theorem s_part_of {sizes : List Nat} {p : Row → Rat} (h : TbOk sizes p) (c : Row → Bool) : f_part_of [.d (Dp sizes p), .d (Ev sizes c)] = ret (.d (R (pr sizes p c))) := by
  refine den_ret rfl rfl (ρ' := [some (.d (Dp sizes p)), some (.d (Ev sizes c)), none]) ?_
  have h1 : comp [] (turn1 c_part_of (.nm 2) [2] .nil (.idx (.var 0) (.var 2)) [some (.d (Dp sizes p)), some (.d (Ev sizes c)), none]) (((rows sizes).filter c).map fun r => Val.d (Nt r)) = ret (((rows sizes).filter c).map fun r => R (p r)) := by
    refine lc_map _ fun r hr => ?_
    simp [c_part_of, idx_Dp (mf hr)]
  simp only [c_part_of] at h1
  simp [b_part_of, c_part_of, Function.comp_def, h1, s_total_map (h.sms_sub c), pr]
theorem s_chance_of {sizes : List Nat} {p : Row → Rat} (h : TbOk sizes p) (c : Row → Bool) : f_chance_of [.d (Tb sizes p), .d (Ev sizes c)] = ret (.d (R (pr sizes p c))) := by
  refine den_ret rfl rfl (ρ' := [some (.d (Tb sizes p)), some (.d (Ev sizes c))]) ?_
  simp [b_chance_of, c_chance_of, h, s_need_event, s_part_of h]
/-- the chances given an event -/
def cond (sizes : List Nat) (p : Row → Rat) (c : Row → Bool) : Row → Rat := fun r => if c r then p r / pr sizes p c else 0
theorem pr_nonneg {sizes : List Nat} {p : Row → Rat} (h : TbOk sizes p) (c : Row → Bool) : 0 ≤ pr sizes p c := by
  refine sum_nonneg fun x hx => ?_
  obtain ⟨r, hr, rfl⟩ := List.mem_map.mp hx
  exact h.nonneg (mf hr)
theorem pr_le_one {sizes : List Nat} {p : Row → Rat} (h : TbOk sizes p) (c : Row → Bool) : pr sizes p c ≤ 1 := by
  rw [← h.one]
  exact sum_sub (List.Sublist.map p List.filter_sublist) fun y hy => by obtain ⟨r', hr', rfl⟩ := List.mem_map.mp hy; exact h.nonneg hr'
theorem pr_fr {sizes : List Nat} {p : Row → Rat} {D : Nat} (d0 : D ≠ 0) (f : ∀ r ∈ rows sizes, Fr D (p r)) (c : Row → Bool) : Fr D (pr sizes p c) := by
  refine Fr.sum d0 fun x hx => ?_
  obtain ⟨r, hr, rfl⟩ := List.mem_map.mp hx
  exact f r (mf hr)
/-- a sum over the rows of an event is one over all rows -/
theorem sum_filter (l : List Row) (c : Row → Bool) (p : Row → Rat) : ((l.filter c).map p).sum = (l.map fun r => if c r then p r else 0).sum := by
  induction l with
  | nil => rfl
  | cons x l ih =>
    simp only [List.filter_cons, List.map_cons, List.sum_cons]
    cases h : c x
    · simp only [Bool.false_eq_true, if_false]; rw [ih]; grind
    · simp only [if_true, List.map_cons, List.sum_cons]; rw [ih]
theorem pr_eq (sizes : List Nat) (p : Row → Rat) (c : Row → Bool) : pr sizes p c = ((rows sizes).map fun r => if c r then p r else 0).sum := sum_filter _ _ _
theorem sum_mul (l : List Row) (f : Row → Rat) (k : Rat) : (l.map fun r => f r * k).sum = (l.map f).sum * k := by
  induction l with
  | nil => simp [Rat.zero_mul]
  | cons x l ih => simp only [List.map_cons, List.sum_cons, ih]; grind
theorem map_congr' {α β : Type} {l : List α} {f g : α → β} (h : ∀ x ∈ l, f x = g x) : l.map f = l.map g := List.map_congr_left h
theorem pr_cond (sizes : List Nat) (p : Row → Rat) (c d : Row → Bool) : pr sizes (cond sizes p c) d = pr sizes p (fun r => c r && d r) / pr sizes p c := by
  rw [Rat.div_def, pr_eq sizes _ d, pr_eq sizes p (fun r => c r && d r), ← sum_mul]
  refine congrArg List.sum (map_congr' fun r hr => ?_)
  unfold cond
  cases c r <;> cases d r <;> simp [Rat.div_def, Rat.zero_mul]
theorem pr_all (sizes : List Nat) (p : Row → Rat) : pr sizes p (fun _ => true) = ((rows sizes).map p).sum := by
  rw [pr_eq]; simp
theorem TbOk.cond {sizes : List Nat} {p : Row → Rat} (h : TbOk sizes p) {c : Row → Bool} (h0 : pr sizes p c ≠ 0) : TbOk sizes (cond sizes p c) := by
  refine ⟨h.sz, ?_, ?_⟩
  · obtain ⟨D, d0, dl, f⟩ := h.fr
    have hD : (D : Rat) ≠ 0 := by simpa using d0
    obtain ⟨n, hn⟩ := pr_fr d0 f c
    have n0 : n ≠ 0 := fun z => h0 (by rw [hn, z]; grind)
    have hn0 : (n : Rat) ≠ 0 := by simpa using n0
    have le1 := pr_le_one h c
    have nD : n ≤ D := by
      have hp : (0 : Rat) < (D : Rat) := by exact_mod_cast Nat.pos_of_ne_zero d0
      have h2 := Rat.mul_le_mul_of_nonneg_right le1 (Rat.le_of_lt hp)
      rw [hn, Rat.one_mul] at h2
      have : (n : Rat) / (D : Rat) * (D : Rat) = n := by grind
      rw [this] at h2
      exact_mod_cast h2
    refine ⟨n, n0, Nat.lt_of_le_of_lt nD dl, fun r hr => ?_⟩
    unfold EV.Sp.cond
    split
    · obtain ⟨m, hm⟩ := f r hr
      exact ⟨m, by rw [hn, hm]; grind⟩
    · exact Fr.zero n
  · rw [← pr_all, pr_cond]
    simp only [Bool.and_true]
    grind
theorem TbOk.sm {sizes : List Nat} {p : Row → Rat} (h : TbOk sizes p) {r : Row} (hr : r ∈ rows sizes) : Sm 4000 (p r) := by
  obtain ⟨D, d0, dl, f⟩ := h.fr
  exact (f r hr).sm d0 dl (h.ch hr).2
theorem TbOk.sm_pr {sizes : List Nat} {p : Row → Rat} (h : TbOk sizes p) (c : Row → Bool) : Sm 4000 (pr sizes p c) := by
  obtain ⟨D, d0, dl, f⟩ := h.fr
  exact (pr_fr d0 f c).sm d0 dl (pr_le_one h c)
theorem s_given {sizes : List Nat} {p : Row → Rat} (h : TbOk sizes p) {c : Row → Bool} (h0 : pr sizes p c ≠ 0) : f_given [.d (Tb sizes p), .d (Ev sizes c)] = ret (.d (Tb sizes (cond sizes p c))) := by
  refine den_ev rfl rfl fun st => ?_
  simp [b_given, c_given, s_part_of h, s_rows_of h.sz, Function.comp_def, pairUp, dputAll]
  refine wp_floop (fun rest ρ s => ∃ pre w, rows sizes = pre ++ rest ∧ s = st ++ [.dct (pre.map fun r => (Nt r, R (cond sizes p c r)))] ∧ ρ = [some (.d (Tb sizes p)), some (.d (Ev sizes c)), some (.d (R (pr sizes p c))), some (.ref st.length), w]) ⟨[], none, rfl, rfl, rfl⟩ ?_ ?_
  · rintro r rest _ _ ⟨pre, w, e, rfl, rfl⟩
    refine ⟨held_nil, ?_⟩
    have hr : r ∈ rows sizes := by rw [e]; simp
    have hn : r ∉ pre := fun z => by
      have := rows_nodup sizes
      rw [e] at this
      exact (List.nodup_append.mp this).2.2 r z r (by simp) rfl
    have hl : pre.length ≤ 1000 := by
      have := congrArg List.length e
      rw [len_rows, List.length_append] at this
      have := h.sz.2.2.2; omega
    have hd : ∀ v, dputs (pre.map fun r => (Nt r, R (cond sizes p c r))) (Nt r) v = some ((pre.map fun r => (Nt r, R (cond sizes p c r))) ++ [(Nt r, v)]) := fun v => dputs_new tupKey_Nt eqv_Nt hn hl
    have hg : (st ++ [Cell.dct (pre.map fun r => (Nt r, R (cond sizes p c r)))])[st.length]? = some (.dct (pre.map fun r => (Nt r, R (cond sizes p c r)))) := by simp
    simp [in_Ev hr, idx_Dp hr, s_over (h.sm hr) (h.sm_pr c) h0]
    cases hc : c r
    · simp
      rw [wp_put_dct hg (hd _)]
      exact ⟨pre ++ [r], by simp [e], by simp [cond, hc, R0]⟩
    · simp
      rw [wp_put_dct hg (hd _)]
      exact ⟨pre ++ [r], by simp [e], by simp [cond, hc]⟩
  · rintro _ _ ⟨pre, w, e, rfl, rfl⟩
    rw [List.append_nil] at e
    subst e
    refine ⟨held_nil, ?_⟩
    simp
    rw [wp_freeze_dct (kvs := (rows sizes).map fun r => (Nt r, R (cond sizes p c r))) (by simp)]
    simp [Tb, Dp]
theorem s_behind {sizes : List Nat} {p : Row → Rat} (h : TbOk sizes p) {c : Row → Bool} (h0 : pr sizes p c ≠ 0) : f_behind [.d (Tb sizes p), .d (Ev sizes c)] = ret (.d (Tb sizes (cond sizes p c))) := by
  refine den_ret rfl rfl (ρ' := [some (.d (Tb sizes p)), some (.d (Ev sizes c))]) ?_
  simp [b_behind, c_behind, h, s_need_event, s_part_of h, s_given h h0, R0, h0]
end EV.Sp
end

section
set_option autoImplicit false
set_option linter.all false
set_option maxRecDepth 100000
set_option exponentiation.threshold 10000
/-! SpL: drawn sizes, beliefs, tables. -/
namespace EV.Sp
open PySem
/-- _law_sizes(draws, most): 0 draws 1 most 2 some 3 sizes -/
def b_law_sizes : Ss :=
 (.cons (.asg (.nm 2) (.lst 0 (.cons (.tup (.cons (.con (.int 2)) .nil)) (.cons (.tup (.cons (.con (.int 3)) .nil)) (.cons (.tup (.cons (.con (.int 4)) .nil)) (.cons (.tup (.cons (.con (.int 2)) (.cons (.con (.int 2)) .nil))) (.cons (.tup (.cons (.con (.int 2)) (.cons (.con (.int 3)) .nil))) (.cons (.tup (.cons (.con (.int 3)) (.cons (.con (.int 2)) .nil))) (.cons (.tup (.cons (.con (.int 3)) (.cons (.con (.int 3)) .nil))) (.cons (.tup (.cons (.con (.int 2)) (.cons (.con (.int 4)) .nil))) (.cons (.tup (.cons (.con (.int 4)) (.cons (.con (.int 4)) .nil))) (.cons (.tup (.cons (.con (.int 2)) (.cons (.con (.int 2)) (.cons (.con (.int 2)) .nil)))) (.cons (.tup (.cons (.con (.int 2)) (.cons (.con (.int 3)) (.cons (.con (.int 2)) .nil)))) (.cons (.tup (.cons (.con (.int 2)) (.cons (.con (.int 2)) (.cons (.con (.int 3)) .nil)))) (.cons (.tup (.cons (.con (.int 2)) (.cons (.con (.int 2)) (.cons (.con (.int 2)) (.cons (.con (.int 2)) .nil))))) (.cons (.tup (.cons (.con (.int 3)) (.cons (.con (.int 3)) (.cons (.con (.int 3)) .nil)))) (.cons (.tup (.cons (.con (.int 4)) (.cons (.con (.int 3)) (.cons (.con (.int 3)) .nil)))) (.cons (.tup (.cons (.con (.int 2)) (.cons (.con (.int 4)) (.cons (.con (.int 4)) .nil)))) (.cons (.tup (.cons (.con (.int 2)) (.cons (.con (.int 2)) (.cons (.con (.int 3)) (.cons (.con (.int 3)) .nil))))) .nil)))))))))))))))))))
 (.cons (.ret (.call 0 (.cons (.var 0) (.cons (.lc1 0 (.var 3) (.nm 3) (.val (.var 2)) (.cons (.cmp .LtE (.b1 .len 0 (.call 1 (.cons (.var 3) .nil))) (.var 1)) .nil) [3]) .nil))))
 .nil))
noncomputable def c_law_sizes : Ctx := ⟨[("_law_pick", f_law_pick), ("_law_rows_of", f_law_rows_of)], []⟩
noncomputable def f_law_sizes : Fn := den c_law_sizes 2 4 false b_law_sizes
/-- _law_levels(draws, size): 0 draws 1 size 2 parts 3 level 4 part -/
def b_law_levels : Ss :=
 (.cons (.asg (.nm 2) (.lc1 1 (.call 1 (.cons (.var 0) (.cons (.call 2 (.cons (.var 0) (.cons (.lst 0 (.cons (.con (.int 2)) (.cons (.con (.int 3)) (.cons (.con (.int 9)) .nil)))) .nil))) .nil))) (.nm 3) (.rg1 (.var 1)) .nil [3]))
 (.cons (.ife (.cmp .Eq (.b1 .sum 0 (.var 2)) (.con (.int 0)))
 (.cons (.sub (.var 2) (.call 1 (.cons (.var 0) (.cons (.var 1) .nil))) (.con (.int 1)))
 .nil)
 .nil)
 (.cons (.ret (.b1 .tuple 0 (.lc1 0 (.call 0 (.cons (.var 4) (.cons (.b1 .sum 0 (.var 2)) .nil))) (.nm 4) (.val (.var 2)) .nil [4])))
 .nil)))
noncomputable def c_law_levels : Ctx := ⟨[("_law_q", f_law_q), ("_law_draw", f_law_draw), ("_law_pick", f_law_pick)], []⟩
noncomputable def f_law_levels : Fn := den c_law_levels 2 5 false b_law_levels
/-- _law_sm_event(draws, sizes): 0 draws 1 sizes 2 row -/
def b_law_sm_event : Ss :=
 (.cons (.ret (.b1 .tuple 0 (.lc1 0 (.var 2) (.nm 2) (.val (.call 0 (.cons (.var 1) .nil))) (.cons (.cmp .Eq (.call 1 (.cons (.var 0) (.cons (.con (.int 2)) .nil))) (.con (.int 0))) .nil) [2])))
 .nil)
noncomputable def c_law_sm_event : Ctx := ⟨[("_law_rows_of", f_law_rows_of), ("_law_draw", f_law_draw)], []⟩
noncomputable def f_law_sm_event : Fn := den c_law_sm_event 2 3 false b_law_sm_event
inductive All2 {α β : Type} (P : α → β → Prop) : List α → List β → Prop
  | nil : All2 P [] []
  | cons {a : α} {b : β} {as : List α} {bs : List β} : P a b → All2 P as bs → All2 P (a :: as) (b :: bs)
theorem All2.app {α β : Type} {P : α → β → Prop} {as cs : List α} {bs ds : List β} (h : All2 P as bs) (k : All2 P cs ds) : All2 P (as ++ cs) (bs ++ ds) := by
  induction h with
  | nil => exact k
  | cons p _ ih => exact .cons p ih
theorem All2.len {α β : Type} {P : α → β → Prop} {as : List α} {bs : List β} (h : All2 P as bs) : bs.length = as.length := by
  induction h with
  | nil => rfl
  | cons _ _ ih => simp [ih]
theorem All2.all {α β : Type} {P : α → β → Prop} {as : List α} {bs : List β} (h : All2 P as bs) : ∀ b ∈ bs, ∃ a ∈ as, P a b := by
  induction h with
  | nil => intro b hb; cases hb
  | cons p _ ih =>
    intro b hb
    rcases List.mem_cons.mp hb with rfl | hb
    · exact ⟨_, by simp, p⟩
    · obtain ⟨a, ha, q⟩ := ih b hb
      exact ⟨a, by simp [ha], q⟩
/-- a comprehension whose elements draw -/
theorem wp_comp_draw {δ τ : Type} {n g b : Nat} {st : Sto} {f : Val → M (List Dt)} {enc : δ → Val} {xs : List δ} (K : Nat) (enc2 : τ → Dt) (P : δ → τ → Prop) (d : DS n g (b + K * xs.length) st)
    (h : ∀ x ∈ xs, ∀ b s, DS n g (b + K) s → wp (f (enc x)) (fun ys s' => (∃ z, ys = [enc2 z] ∧ P x z) ∧ Dr n g b s s') s) :
    wp (comp [] f (xs.map enc)) (fun ys s => (∃ zs, ys = zs.map enc2 ∧ All2 P xs zs) ∧ Dr n g b st s) st := by
  refine wp_comp (fun rest ys s => Dr n g (b + K * rest.length) st s ∧ ∃ pre zs, xs = pre ++ rest ∧ ys = zs.map enc2 ∧ All2 P pre zs) ⟨Dr.refl d, [], [], rfl, rfl, .nil⟩ ?_ ?_
  · rintro x rest _ s ⟨dr, pre, zs, e, rfl, a⟩
    refine ⟨held_nil, ?_⟩
    have hd : DS n g ((b + K * rest.length) + K) s := dr.2.1.mono (by simp only [List.length_cons, Nat.mul_succ]; omega)
    refine (h x (by rw [e]; simp) _ s hd).mono ?_
    rintro _ s' ⟨⟨z, rfl, p⟩, dr'⟩
    exact ⟨dr.trans dr', pre ++ [x], zs ++ [z], by simp [e], by simp, a.app (.cons p .nil)⟩
  · rintro _ s ⟨dr, pre, zs, e, rfl, a⟩
    rw [List.append_nil] at e
    subst e
    exact ⟨held_nil, ⟨zs, rfl, a⟩, dr.mono (by simp)⟩
/-- a comprehension whose conditions draw -/
theorem wp_comp_keep {δ : Type} {n g b : Nat} {st : Sto} {f : Val → M (List Dt)} {enc : δ → Val} {xs : List δ} (K : Nat) (enc2 : δ → Dt) (d : DS n g (b + K * xs.length) st)
    (h : ∀ x ∈ xs, ∀ b s, DS n g (b + K) s → wp (f (enc x)) (fun ys s' => (ys = [enc2 x] ∨ ys = []) ∧ Dr n g b s s') s) :
    wp (comp [] f (xs.map enc)) (fun ys s => (∃ zs : List δ, ys = zs.map enc2 ∧ zs.Sublist xs) ∧ Dr n g b st s) st := by
  refine wp_comp (fun rest ys s => Dr n g (b + K * rest.length) st s ∧ ∃ (pre zs : List δ), xs = pre ++ rest ∧ ys = zs.map enc2 ∧ zs.Sublist pre) ⟨Dr.refl d, [], [], rfl, rfl, .slnil⟩ ?_ ?_
  · rintro x rest _ s ⟨dr, pre, zs, e, rfl, a⟩
    refine ⟨held_nil, ?_⟩
    have hd : DS n g ((b + K * rest.length) + K) s := dr.2.1.mono (by simp only [List.length_cons, Nat.mul_succ]; omega)
    refine (h x (by rw [e]; simp) _ s hd).mono ?_
    rintro _ s' ⟨rfl | rfl, dr'⟩
    · exact ⟨dr.trans dr', pre ++ [x], zs ++ [x], by simp [e], by simp, a.append (List.Sublist.refl _)⟩
    · exact ⟨dr.trans dr', pre ++ [x], zs, by simp [e], by simp, a.trans (List.sublist_append_left _ _)⟩
  · rintro _ s ⟨dr, pre, zs, e, rfl, a⟩
    rw [List.append_nil] at e
    subst e
    exact ⟨held_nil, ⟨zs, rfl, a⟩, dr.mono (by simp)⟩
/-- a sublist is chosen by a test -/
theorem sub_filter {l e : List Row} (h : e.Sublist l) (hn : l.Nodup) : e = l.filter fun r => decide (r ∈ e) := by
  induction h with
  | slnil => rfl
  | cons a h ih =>
    rename_i e l
    obtain ⟨h1, h2⟩ := List.nodup_cons.mp hn
    have : a ∉ e := fun z => h1 (h.subset z)
    rw [List.filter_cons, if_neg (by simpa using this)]
    exact ih h2
  | cons_cons a h ih =>
    rename_i e l
    obtain ⟨h1, h2⟩ := List.nodup_cons.mp hn
    rw [List.filter_cons, if_pos (by simp)]
    have := ih h2
    refine congrArg _ (this.trans (List.filter_congr fun r hr => ?_))
    have : r ≠ a := fun z => h1 (z ▸ hr)
    simp [this]
/-! ### sizes -/
def szs : List (List Nat) := [[2], [3], [4], [2, 2], [2, 3], [3, 2], [3, 3], [2, 4], [4, 4], [2, 2, 2], [2, 3, 2], [2, 2, 3], [2, 2, 2, 2], [3, 3, 3], [4, 3, 3], [2, 4, 4], [2, 2, 3, 3]]
instance (z : List Nat) : Decidable (SzOk z) := inferInstanceAs (Decidable (_ ∧ _ ∧ _ ∧ _))
theorem szs_ok : ∀ z ∈ szs, SzOk z := by decide
theorem left_dr {n g b b' : Nat} {st s : Sto} {x : Dt} {ρ : Env} {Q : Val → Sto → Prop} (h : Dr n g b st s) (d : DS n g b' st) (q : Q (.d x) s) : Left st Q (.ret (.d x), ρ) s :=
  left_ret h.drx d (by rw [List.take_of_length_le (by rw [h.1]; exact Nat.le_refl _)]; exact q)
theorem s_law_sizes {n g b most : Nat} {st : Sto} (d : DS n g (b + 1) st) (hm : 2 ≤ most) : wp (f_law_sizes [.ref n, .d (.int most)]) (fun v s => (∃ sizes, SzOk sizes ∧ prod sizes ≤ most ∧ v = .d (Nt sizes)) ∧ Dr n g b st s) st := by
  refine wp_den (ρ0 := [some (.ref n), some (.d (.int most)), none, none]) rfl rfl ?_
  have h1 : comp [] (turn1 c_law_sizes (.nm 3) [3] (.cons (.cmp .LtE (.b1 .len 0 (.call 1 (.cons (.var 3) .nil))) (.var 1)) .nil) (.var 3) [some (.ref n), some (.d (.int most)), some (.d (.list (szs.map Nt))), none]) (szs.map fun z => Val.d (Nt z)) = ret ((szs.filter fun z => decide (prod z ≤ most)).map Nt) := by
    refine lc_filter _ _ fun z hz => ?_
    simp [c_law_sizes, s_law_rows_of (szs_ok z hz), len_rows]
  have e0 : evs c_law_sizes (.cons (.tup (.cons (.con (.int 2)) .nil)) (.cons (.tup (.cons (.con (.int 3)) .nil)) (.cons (.tup (.cons (.con (.int 4)) .nil)) (.cons (.tup (.cons (.con (.int 2)) (.cons (.con (.int 2)) .nil))) (.cons (.tup (.cons (.con (.int 2)) (.cons (.con (.int 3)) .nil))) (.cons (.tup (.cons (.con (.int 3)) (.cons (.con (.int 2)) .nil))) (.cons (.tup (.cons (.con (.int 3)) (.cons (.con (.int 3)) .nil))) (.cons (.tup (.cons (.con (.int 2)) (.cons (.con (.int 4)) .nil))) (.cons (.tup (.cons (.con (.int 4)) (.cons (.con (.int 4)) .nil))) (.cons (.tup (.cons (.con (.int 2)) (.cons (.con (.int 2)) (.cons (.con (.int 2)) .nil)))) (.cons (.tup (.cons (.con (.int 2)) (.cons (.con (.int 3)) (.cons (.con (.int 2)) .nil)))) (.cons (.tup (.cons (.con (.int 2)) (.cons (.con (.int 2)) (.cons (.con (.int 3)) .nil)))) (.cons (.tup (.cons (.con (.int 2)) (.cons (.con (.int 2)) (.cons (.con (.int 2)) (.cons (.con (.int 2)) .nil))))) (.cons (.tup (.cons (.con (.int 3)) (.cons (.con (.int 3)) (.cons (.con (.int 3)) .nil)))) (.cons (.tup (.cons (.con (.int 4)) (.cons (.con (.int 3)) (.cons (.con (.int 3)) .nil)))) (.cons (.tup (.cons (.con (.int 2)) (.cons (.con (.int 4)) (.cons (.con (.int 4)) .nil)))) (.cons (.tup (.cons (.con (.int 2)) (.cons (.con (.int 2)) (.cons (.con (.int 3)) (.cons (.con (.int 3)) .nil))))) .nil))))))))))))))))) [some (.ref n), some (.d (.int most)), none, none] = ret ((szs.map Nt).map .d) := by
    simp [szs, Nt]
  rw [b_law_sizes, exs_cons, ex_asg, ev_lst, e0, bnd_ret, mkList_z, datas_map]
  simp only [opt_some, bnd_ret, bind1_nm, List.set_cons_succ, List.set_cons_zero, andThen_nx, exs_cons, ex_ret, ev_call, evs_cons, evs_nil, ev_var, lookEnv_s, lookEnv_z, ev_lc1, evi_val, itemsV_d, items_list, bnd_bnd, List.map_map, Function.comp_def, h1, fresh_z]
  simp [c_law_sizes]
  refine (s_law_pick d (xs := (szs.filter fun z => decide (prod z ≤ most)).map Nt) ?_ ?_).mono ?_
  · have : [2] ∈ szs.filter fun z => decide (prod z ≤ most) := List.mem_filter.mpr ⟨by decide, by simpa [prod] using hm⟩
    intro e
    rw [List.map_eq_nil_iff.mp e] at this
    cases this
  · rw [List.length_map]
    exact Nat.lt_of_le_of_lt (List.length_filter_le _ _) (by decide)
  · rintro _ s ⟨⟨x, hx, rfl⟩, dr⟩
    obtain ⟨z, hz, rfl⟩ := List.mem_map.mp hx
    obtain ⟨h2, h3⟩ := List.mem_filter.mp hz
    exact left_dr dr d ⟨⟨z, szs_ok z h2, by simpa using h3, rfl⟩, dr⟩
theorem s_law_sm_event {n g b : Nat} {st : Sto} {sizes : List Nat} (h : SzOk sizes) (d : DS n g (b + 36) st) : wp (f_law_sm_event [.ref n, .d (Nt sizes)]) (fun v s => (∃ c, v = .d (Ev sizes c)) ∧ Dr n g b st s) st := by
  refine wp_den rfl rfl ?_
  simp [b_law_sm_event, c_law_sm_event, s_law_rows_of h, Function.comp_def]
  have hl : (rows sizes).length ≤ 36 := by rw [len_rows]; exact h.2.2.2
  refine (wp_comp_keep 1 Nt (b := b) (d.mono (by omega)) fun x hx b s ds => ?_).mono ?_
  · simp
    refine (s_law_draw ds (by decide) (r := 2) (by decide)).mono ?_
    rintro _ s' ⟨k, hk, rfl, dr⟩
    simp
    exact dr
  · rintro _ s ⟨⟨zs, rfl, sub⟩, dr⟩
    refine left_dr dr d ⟨⟨fun r => decide (r ∈ zs), ?_⟩, dr⟩
    unfold Ev
    rw [← sub_filter sub (rows_nodup sizes)]
/-! ### beliefs -/
/-- a belief of levels -/
def Bl (D : Nat) (qs : List Rat) : Prop := D ≠ 0 ∧ D ≤ 32 ∧ (∀ q ∈ qs, Fr D q) ∧ qs.sum = 1
def Rt (qs : List Rat) : Dt := .tuple (qs.map R)
theorem sum_div (ks : List Nat) (D : Nat) : (ks.map fun k : Nat => (k : Rat) / (D : Rat)).sum = (ks.sum : Nat) / (D : Rat) := by
  induction ks with
  | nil => simp [Rat.div_def, Rat.zero_mul]
  | cons k ks ih => simp only [List.map_cons, List.sum_cons, ih, Rat.natCast_add]; grind
theorem sum_ints (ks : List Nat) : (ks.map fun k : Nat => (k : Int)).sum = (ks.sum : Nat) := by
  induction ks with
  | nil => rfl
  | cons k ks ih => simp only [List.map_cons, List.sum_cons, ih]; simp
theorem q_nat {k s : Nat} (h : s ≠ 0) (hs : s < 2 ^ 60) : f_law_q [.d (.int (k : Nat)), .d (.int (s : Nat))] = ret (.d (R ((k : Rat) / (s : Rat)))) := by
  rw [s_law_q (by omega) (Nat.lt_of_lt_of_le (m := 2 ^ 60) (by simpa using hs) (Nat.pow_le_pow_right (by decide) (by decide))), Rat.divInt_eq_div]
  rfl
theorem sum_set (ks : List Nat) (i : Nat) (hi : i < ks.length) (h : ks.sum = 0) : (ks.set i 1).sum = 1 := by
  induction ks generalizing i with
  | nil => simp at hi
  | cons k ks ih =>
    rw [List.sum_cons] at h
    cases i with
    | zero => simp only [List.set_cons_zero, List.sum_cons]; omega
    | succ i =>
      simp only [List.set_cons_succ, List.sum_cons]
      rw [ih i (by simpa using hi) (by omega)]; omega
theorem sum_le {ks : List Nat} {m : Nat} (h : ∀ k ∈ ks, k ≤ m) : ks.sum ≤ m * ks.length := by
  induction ks with
  | nil => simp
  | cons k ks ih =>
    have := h k (by simp)
    have := ih fun y hy => h y (by simp [hy])
    simp only [List.sum_cons, List.length_cons, Nat.mul_succ]; omega
theorem pick_nat {n g b : Nat} {st : Sto} {ks : List Nat} {xs : List Dt} (e : xs = ks.map fun k => .int (k : Nat)) (d : DS n g (b + 1) st) (h0 : ks ≠ []) (hr : ks.length < 2 ^ 64) : wp (f_law_pick [.ref n, .d (.list xs)]) (fun v s => (∃ k ∈ ks, v = .d (.int (k : Nat))) ∧ Dr n g b st s) st := by
  subst e
  refine (s_law_pick d (by simpa using h0) (by simpa using hr)).mono ?_
  rintro _ s ⟨⟨x, hx, rfl⟩, dr⟩
  obtain ⟨k, hk, rfl⟩ := List.mem_map.mp hx
  exact ⟨⟨k, hk, rfl⟩, dr⟩
theorem s_law_levels {n g b size : Nat} {st : Sto} (h : 2 ≤ size ∧ size ≤ 4) (d : DS n g (b + 20) st) : wp (f_law_levels [.ref n, .d (.int size)]) (fun v s => (∃ D qs, Bl D qs ∧ qs.length = size ∧ v = .d (Rt qs)) ∧ Dr n g b st s) st := by
  have hn := d.lt
  have gn := d.gn
  unfold f_law_levels
  generalize hb : b_law_levels = bb
  refine wp_den (ρ0 := [some (.ref n), some (.d (.int size)), none, none, none]) rfl rfl ?_
  subst hb
  simp [b_law_levels, rng_k (n := size) (by omega)]
  refine (wp_comp_draw 2 (fun k : Nat => .int k) (fun _ k => k ≤ 8) (b := b + 1) (d.mono (by simp; omega)) fun x hx b s ds => ?_).mono ?_
  · simp [c_law_levels]
    have hp := pick_nat (n := n) (g := g) (st := s) (ks := [2, 3, 9]) (xs := [.int 2, .int 3, .int 9]) (by simp) (b := b + 1) ds (by simp) (by simp)
    refine hp.mono ?_
    rintro _ s1 ⟨⟨m, hm, rfl⟩, dr1⟩
    have hm' : 0 < m ∧ m ≤ 9 := by
      have : ∀ m ∈ [2, 3, 9], 0 < m ∧ m ≤ 9 := by decide
      exact this m hm
    refine (s_law_draw dr1.2.1 hm'.1 (by omega)).mono ?_
    rintro _ s2 ⟨k, hk, rfl, dr2⟩
    simp
    exact ⟨⟨k, rfl, by omega⟩, dr1.trans dr2⟩
  · rintro _ s ⟨⟨ks, rfl, a⟩, dr⟩
    have kl : ks.length = size := by have := a.len; simpa using this
    have k8 : ∀ k ∈ ks, k ≤ 8 := fun k hk => by obtain ⟨_, _, q⟩ := a.all k hk; exact q
    have key : ∀ (s1 : Sto) (js : List Nat), js.length = size → (∀ k ∈ js, k ≤ 8) → js.sum ≠ 0 → s1[st.length]? = some (.lst (js.map fun k => .int (k : Nat))) → Drx n g b st s1 →
        wp (exs c_law_levels (.cons (.ret (.b1 .tuple 0 (.lc1 0 (.call 0 (.cons (.var 4) (.cons (.b1 .sum 0 (.var 2)) .nil))) (.nm 4) (.val (.var 2)) .nil [4]))) .nil) [some (.ref n), some (.d (.int size)), some (.ref st.length), none, none]) (Left st (fun v s => (∃ D qs, Bl D qs ∧ qs.length = size ∧ v = .d (Rt qs)) ∧ Dr n g b st s)) s1 := by
      intro s1 js jl j8 j0 c1 dx
      have js32 : js.sum ≤ 32 := by
        have := sum_le j8
        rw [jl] at this; omega
      simp
      rw [wp_items_lst c1]
      have e4 : List.map Val.d (js.map fun k => .int (k : Nat)) = js.map fun k : Nat => Val.d (.int (k : Nat)) := by rw [List.map_map]; rfl
      rw [e4]
      refine wp.mono (Q := fun ys s => ys = (js.map fun k : Nat => R ((k : Rat) / (js.sum : Nat))) ∧ s = s1) ?_ ?_
      · refine wp_comp (fun rest ys s => s = s1 ∧ ∃ pre, js = pre ++ rest ∧ ys = pre.map fun k : Nat => R ((k : Rat) / (js.sum : Nat))) ⟨rfl, [], rfl, rfl⟩ ?_ ?_
        · rintro k rest _ _ ⟨rfl, pre, e, rfl⟩
          refine ⟨fun _ _ => rfl, ?_⟩
          simp [c_law_levels]
          rw [wp_dat_lst c1]
          simp [intsOf_map, sum_ints, q_nat j0 (by omega)]
          exact ⟨pre ++ [k], by simp [e], by simp⟩
        · rintro _ _ ⟨rfl, pre, e, rfl⟩
          rw [List.append_nil] at e
          subst e
          exact ⟨fun _ _ => rfl, rfl, rfl⟩
      · rintro _ _ ⟨rfl, rfl⟩
        refine left_ret dx d ⟨⟨js.sum, js.map fun k : Nat => (k : Rat) / (js.sum : Nat), ⟨j0, js32, ?_, ?_⟩, by simp [jl], ?_⟩, dx.2⟩
        · intro q hq
          obtain ⟨k, _, rfl⟩ := List.mem_map.mp hq
          exact ⟨k, rfl⟩
        · rw [sum_div]
          have : ((js.sum : Nat) : Rat) ≠ 0 := by exact_mod_cast j0
          grind
        · simp [Rt, Function.comp_def]
    have c1 : (s ++ [Cell.lst (ks.map fun k => .int (k : Nat))])[st.length]? = some (.lst (ks.map fun k => .int (k : Nat))) := by rw [← dr.1]; simp
    have dx := (dr.drx).app (t := [Cell.lst (ks.map fun k => .int (k : Nat))])
    rw [dr.1, wp_dat_lst c1]
    simp [intsOf_map, sum_ints]
    split
    · rename_i hz
      have hz' : ks.sum = 0 := by exact_mod_cast hz
      simp [c_law_levels]
      refine (s_law_draw (dx.ds) (r := size) (by omega) (by omega)).mono ?_
      rintro _ s2 ⟨k, hk, rfl, dr2⟩
      have c2 : s2[st.length]? = some (.lst (ks.map fun k => .int (k : Nat))) := by rw [dr2.far hn gn]; exact c1
      rw [wp_put_lst c2 (by simpa [kl] using hk)]
      have := key (s2.set st.length (.lst ((ks.set k 1).map fun k => .int (k : Nat)))) (ks.set k 1) (by simp [kl]) (fun j hj => by
        rcases List.mem_or_eq_of_mem_set hj with hj | rfl
        · exact k8 j hj
        · omega) (by rw [sum_set ks k (by omega) hz']; decide) (by
          have : st.length < s2.length := (List.getElem?_eq_some_iff.mp c2).1
          simp [this]) ((dx.trans dr2).set (Nat.le_refl _))
      have e5 : (ks.map fun k : Nat => PyData.int (k : Nat)).set k (.int 1) = (ks.set k 1).map fun k : Nat => .int (k : Nat) := by rw [List.map_set]; rfl
      rw [e5]
      simpa [c_law_levels] using this
    · rename_i hz
      have hz' : ks.sum ≠ 0 := by exact_mod_cast hz
      have := key _ ks kl k8 hz' c1 (dx.mono (by omega))
      simpa [c_law_levels] using this
end EV.Sp
end

section
set_option autoImplicit false
set_option linter.all false
set_option maxRecDepth 100000
set_option exponentiation.threshold 10000
/-! SpF: drawn tables. -/
namespace EV.Sp
open PySem
theorem Sm_mul {A B : Nat} {a b : Rat} (ha : Sm A a) (hb : Sm B b) : Sm (A + B) (a * b) := by
  have e : a * b = Rat.divInt (a.num * b.num) (a.den * b.den) := by
    rw [← Rat.divInt_mul_divInt, Rat.num_divInt_den, Rat.num_divInt_den]
  rw [e]
  exact Sm_divInt (natAbs_mul_lt ha.num hb.num (Nat.le_refl _)) (natAbs_mul_lt ha.den hb.den (Nat.le_refl _)) (Int.mul_ne_zero (den0 a) (den0 b))
theorem Sm_one : Sm 1 1 := by constructor <;> decide
theorem Sm_zero : Sm 1 0 := by constructor <;> decide
theorem Bl.le1 {D : Nat} {qs : List Rat} (h : Bl D qs) {q : Rat} (hq : q ∈ qs) : q ≤ 1 := by
  rw [← h.2.2.2]; exact le_sum (fun x hx => (h.2.2.1 x hx).nonneg) hq
theorem Bl.sm {D : Nat} {qs : List Rat} (h : Bl D qs) {q : Rat} (hq : q ∈ qs) : Sm 6 q :=
  (h.2.2.1 q hq).sm h.1 (Nat.lt_of_le_of_lt h.2.1 (by decide)) (h.le1 hq)
/-- the product of the levels' chances -/
def pf : List (List Rat) → Row → Rat
  | b :: bs, l :: r => b.getD l 0 * pf bs r
  | _, _ => 1
/-- beliefs of some things -/
def Bls (bs : List (List Rat)) : Prop := SzOk (bs.map List.length) ∧ ∀ b ∈ bs, ∃ D, Bl D b
theorem Fr.mul {D E : Nat} {x y : Rat} (d0 : D ≠ 0) (e0 : E ≠ 0) (hx : Fr D x) (hy : Fr E y) : Fr (D * E) (x * y) := by
  obtain ⟨n, rfl⟩ := hx
  obtain ⟨m, rfl⟩ := hy
  have h1 : (D : Rat) ≠ 0 := by simpa using d0
  have h2 : (E : Rat) ≠ 0 := by simpa using e0
  refine ⟨n * m, ?_⟩
  rw [Rat.natCast_mul, Rat.natCast_mul]; grind
theorem Fr.up {D E : Nat} {x : Rat} (d0 : D ≠ 0) (e0 : E ≠ 0) (hx : Fr D x) : Fr (D * E) x := by
  have := hx.mul d0 e0 (y := 1) ⟨E, by have : (E : Rat) ≠ 0 := by simpa using e0
                                       grind⟩
  rwa [Rat.mul_one] at this
theorem pf_fr (bs : List (List Rat)) (h : ∀ b ∈ bs, ∃ D, Bl D b) : ∃ D, D ≠ 0 ∧ D ≤ 32 ^ bs.length ∧ ∀ r ∈ rows (bs.map List.length), Fr D (pf bs r) := by
  induction bs with
  | nil => exact ⟨1, by decide, by decide, fun r _ => ⟨1, by unfold pf; grind⟩⟩
  | cons b bs ih =>
    obtain ⟨E, e0, el, f⟩ := ih fun b hb => h b (by simp [hb])
    obtain ⟨D, hD⟩ := h b (by simp)
    refine ⟨D * E, Nat.mul_ne_zero hD.1 e0, ?_, fun r hr => ?_⟩
    · rw [List.length_cons, Nat.pow_succ, Nat.mul_comm]; exact Nat.mul_le_mul el hD.2.1
    · simp only [List.map_cons, rows, List.mem_flatMap, List.mem_range, List.mem_map] at hr
      obtain ⟨l, hl, r', hr', rfl⟩ := hr
      unfold pf
      refine Fr.mul hD.1 e0 ?_ (f r' hr')
      rw [List.getD_eq_getElem?_getD, List.getElem?_eq_getElem hl]
      exact hD.2.2.1 _ (List.getElem_mem hl)
theorem range_getD (b : List Rat) : (List.range b.length).map (fun l => b.getD l 0) = b := by
  apply List.ext_getElem
  · simp
  · intro i h1 h2
    simp at h1
    simp [List.getD_eq_getElem?_getD, h1]
theorem pf_sum (bs : List (List Rat)) (h : ∀ b ∈ bs, ∃ D, Bl D b) : ((rows (bs.map List.length)).map (pf bs)).sum = 1 := by
  induction bs with
  | nil => simp [rows, pf]; grind
  | cons b bs ih =>
    have ih := ih fun b hb => h b (by simp [hb])
    obtain ⟨D, hD⟩ := h b (by simp)
    have key : ∀ l : List Nat, ((l.flatMap fun x => (rows (bs.map List.length)).map (x :: ·)).map (pf (b :: bs))).sum = (l.map fun x => b.getD x 0).sum := by
      intro l
      induction l with
      | nil => rfl
      | cons x l ih2 =>
        simp only [List.flatMap_cons, List.map_append, sum_append, ih2, List.map_cons, List.sum_cons, List.map_map]
        congr 1
        have e : (pf (b :: bs) ∘ (x :: ·)) = fun r => pf bs r * b.getD x 0 := by funext r; simp only [Function.comp, pf]; rw [Rat.mul_comm]
        rw [e, sum_mul, ih, Rat.one_mul]
    simp only [List.map_cons, rows]
    rw [key, range_getD, hD.2.2.2]
theorem pf_ok {bs : List (List Rat)} (h : Bls bs) : TbOk (bs.map List.length) (pf bs) := by
  refine ⟨h.1, ?_, pf_sum bs h.2⟩
  obtain ⟨D, d0, dl, f⟩ := pf_fr bs h.2
  refine ⟨D, d0, Nat.lt_of_le_of_lt dl ?_, f⟩
  have := h.1.2.1
  rw [List.length_map] at this
  exact Nat.lt_of_le_of_lt (Nat.pow_le_pow_right (by decide) this) (Nat.lt_of_lt_of_le (m := 2 ^ 21) (by decide) (Nat.pow_le_pow_right (by decide) (by decide)))
@[simp] theorem len_Rt (qs : List Rat) : b1D .len (Rt qs) = some (.int (qs.length : Nat)) := by unfold Rt; rw [len_tuple, List.length_map]
theorem idx_Rt {qs : List Rat} {i : Nat} (h : i < qs.length) : idxD (Rt qs) (.int (i : Nat)) = some (R (qs.getD i 0)) := by
  unfold Rt; rw [idx_tuple, at_nat]; simp [h]
/-- _law_free(beliefs): 0 beliefs 1 found 2 row 3 worth 4 belief 5 level -/
def b_law_free : Ss :=
 (.cons (.asg (.nm 1) (.dct 1 .nil))
 (.cons (.for_ (.nm 2) (.val (.call 0 (.cons (.b1 .tuple 0 (.lc1 0 (.b1 .len 0 (.var 4)) (.nm 4) (.val (.var 0)) .nil [4])) .nil)))
 (.cons (.asg (.nm 3) (.tup (.cons (.con (.int 1)) (.cons (.con (.int 1)) .nil))))
 (.cons (.for_ (.tp [4, 5]) (.zip (.var 0) (.var 2))
 (.cons (.asg (.nm 3) (.call 1 (.cons (.var 3) (.cons (.idx (.var 4) (.var 5)) .nil))))
 .nil))
 (.cons (.sub (.var 1) (.var 2) (.var 3))
 .nil))))
 (.cons (.ret (.tup (.cons (.con (.str "table")) (.cons (.b1 .tuple 0 (.lc1 0 (.b1 .len 0 (.var 4)) (.nm 4) (.val (.var 0)) .nil [4])) (.cons (.frz (.var 1)) .nil)))))
 .nil)))
noncomputable def c_law_free : Ctx := ⟨[("_law_rows_of", f_law_rows_of), ("_law_times", f_law_times)], []⟩
noncomputable def f_law_free : Fn := den c_law_free 1 6 false b_law_free
/-- _law_raised(belief): 0 belief -/
def b_law_raised : Ss :=
 (.cons (.ret (.bin .Add (.bin .Add (.tup (.cons (.call 0 (.cons (.idx (.var 0) (.con (.int 0))) (.cons (.idx (.var 0) (.con (.int 1))) .nil))) .nil)) (.sli (.var 0) (.some (.con (.int 2))) .none)) (.tup (.cons (.tup (.cons (.con (.int 0)) (.cons (.con (.int 1)) .nil))) .nil))))
 .nil)
noncomputable def c_law_raised : Ctx := ⟨[("_law_plus", f_law_plus)], []⟩
noncomputable def f_law_raised : Fn := den c_law_raised 1 1 false b_law_raised
/-- _law_blend(one, other, share): 0 one 1 other 2 share 3 rest 4 row -/
def b_law_blend : Ss :=
 (.cons (.asg (.nm 3) (.call 2 (.cons (.tup (.cons (.con (.int 1)) (.cons (.con (.int 1)) .nil))) (.cons (.var 2) .nil))))
 (.cons (.ret (.tup (.cons (.con (.str "table")) (.cons (.idx (.var 0) (.con (.int 1))) (.cons (.b1 .dict 0 (.lc1 0 (.tup (.cons (.var 4) (.cons (.call 0 (.cons (.call 1 (.cons (.var 2) (.cons (.idx (.idx (.var 0) (.con (.int 2))) (.var 4)) .nil))) (.cons (.call 1 (.cons (.var 3) (.cons (.idx (.idx (.var 1) (.con (.int 2))) (.var 4)) .nil))) .nil))) .nil))) (.nm 4) (.val (.idx (.var 0) (.con (.int 2)))) .nil [4])) .nil)))))
 .nil))
noncomputable def c_law_blend : Ctx := ⟨[("_law_plus", f_law_plus), ("_law_times", f_law_times), ("_law_minus", f_law_minus)], []⟩
noncomputable def f_law_blend : Fn := den c_law_blend 3 5 false b_law_blend
theorem s_law_free {bs : List (List Rat)} (h : Bls bs) : f_law_free [.d (.list (bs.map Rt))] = ret (.d (Tb (bs.map List.length) (pf bs))) := by
  refine den_ev rfl rfl fun st => ?_
  have hsz : ∀ w1 w2 w3 w4 w5, comp [] (turn1 c_law_free (.nm 4) [4] .nil (.b1 .len 0 (.var 4)) [some (.d (.list (bs.map Rt))), w1, w2, w3, w4, w5]) (bs.map fun b => Val.d (Rt b)) = ret (bs.map fun b => .int (b.length : Nat)) := by
    intro w1 w2 w3 w4 w5
    refine lc_map _ fun b hb => ?_
    simp
  have e0 : (PyData.tuple (bs.map fun b => .int (b.length : Nat))) = Nt (bs.map List.length) := by unfold Nt; rw [List.map_map]; rfl
  simp only [c_law_free] at hsz
  simp [b_law_free, c_law_free, pairUp, dputAll, Function.comp_def, hsz, e0, s_law_rows_of h.1]
  refine wp_floop (fun rest ρ s => ∃ pre w1 w2 w3 w4, rows (bs.map List.length) = pre ++ rest ∧ s = st ++ [.dct (pre.map fun r => (Nt r, R (pf bs r)))] ∧ ρ = [some (.d (.list (bs.map Rt))), some (.ref st.length), w1, w2, w3, w4]) ⟨[], none, none, none, none, rfl, rfl, rfl⟩ ?_ ?_
  · rintro r rest _ _ ⟨pre, w1, w2, w3, w4, e, rfl, rfl⟩
    refine ⟨held_nil, ?_⟩
    have hr : r ∈ rows (bs.map List.length) := by rw [e]; simp
    have hn : r ∉ pre := fun z => by
      have := rows_nodup (bs.map List.length)
      rw [e] at this
      exact (List.nodup_append.mp this).2.2 r z r (by simp) rfl
    have hl : pre.length ≤ 1000 := by
      have := congrArg List.length e
      rw [len_rows, List.length_append] at this
      have := h.1.2.2.2; omega
    have hd : ∀ v, dputs (pre.map fun r => (Nt r, R (pf bs r))) (Nt r) v = some ((pre.map fun r => (Nt r, R (pf bs r))) ++ [(Nt r, v)]) := fun v => dputs_new tupKey_Nt eqv_Nt hn hl
    have hi := mem_rows.mp hr
    simp [zip_maps, R1]
    have in_zip : ∀ (bs : List (List Rat)) (r : Row), inR r (bs.map List.length) = true → ∀ p ∈ bs.zip r, p.2 < p.1.length := by
      intro bs
      induction bs with
      | nil => intro r _ p hp; simp at hp
      | cons b bs ih => intro r hr p hp; cases r with
        | nil => simp at hp
        | cons l r =>
          simp [inR] at hr
          simp only [List.zip_cons_cons, List.mem_cons] at hp
          rcases hp with rfl | hp
          · exact hr.1
          · exact ih r hr.2 p hp
    have pf_zip : ∀ (bs : List (List Rat)) (r : Row), r.length = bs.length → pf bs r = (bs.zip r).foldr (fun p w => p.1.getD p.2 0 * w) 1 := by
      intro bs
      induction bs with
      | nil => intro r _; simp [pf]
      | cons b bs ih => intro r hr; cases r with
        | nil => simp at hr
        | cons l r => simp only [List.length_cons, Nat.add_right_cancel_iff] at hr; unfold pf; rw [ih r hr]; rfl
    have hz := in_zip bs r hi
    have hb4 : bs.length ≤ 4 := by have := h.1.2.1; rwa [List.length_map] at this
    have hzl : (bs.zip r).length ≤ 4 := by rw [List.length_zip]; omega
    refine wp_floop (fun rest2 ρ s => s = st ++ [.dct (pre.map fun r => (Nt r, R (pf bs r)))] ∧ ∃ pre2 w w3 w4, bs.zip r = pre2 ++ rest2 ∧ Sm (1 + 6 * pre2.length) w ∧ w * rest2.foldr (fun p w => p.1.getD p.2 0 * w) 1 = pf bs r ∧ ρ = [some (.d (.list (bs.map Rt))), some (.ref st.length), some (.d (Nt r)), some (.d (R w)), w3, w4])
      ⟨rfl, [], 1, w3, w4, rfl, Sm_one, by rw [Rat.one_mul]; exact (pf_zip bs r (by rw [inR_len hi, List.length_map])).symm, rfl⟩ ?_ ?_
    · rintro q rest2 _ _ ⟨rfl, pre2, w, w3, w4, e2, sm, ew, rfl⟩
      refine ⟨held_nil, ?_⟩
      have hq : q ∈ bs.zip r := by rw [e2]; simp
      have hq1 : q.1 ∈ bs := (List.of_mem_zip (a := q.1) (b := q.2) hq).1
      have hq2 := hz q hq
      obtain ⟨D, hD⟩ := h.2 q.1 hq1
      have hm : q.1.getD q.2 0 ∈ q.1 := by
        rw [List.getD_eq_getElem?_getD, List.getElem?_eq_getElem hq2]; exact List.getElem_mem hq2
      have sq := hD.sm hm
      have p2 : pre2.length ≤ 4 := by
        have := congrArg List.length e2
        rw [List.length_append] at this; omega
      simp only [turnf_app, bind1_tp, List.length_cons, List.length_nil, if_true, setD_cons, setD_nil, List.set_cons_succ, List.set_cons_zero, bnd_ret, exs_cons, exs_nil, ex_asg, ev_call, evs_cons, evs_nil, ev_var, ev_idx, lookEnv_s, lookEnv_z, idxV_d, idx_Rt hq2, opt_some, bind1_nm, List.getElem?_cons_succ, List.getElem?_cons_zero, s_law_times (sm.mono (by omega)) (sq.mono (by omega)), andThen_nx, wp_ret, c_law_free]
      refine ⟨trivial, pre2 ++ [q], w * q.1.getD q.2 0, _, _, by simp [e2], ?_, ?_, rfl⟩
      · rw [List.length_append]; exact (Sm_mul sm sq).mono (by simp; omega)
      · rw [← ew, List.foldr_cons, Rat.mul_assoc]
    · rintro _ _ ⟨rfl, pre2, w, w3, w4, e2, sm, ew, rfl⟩
      refine ⟨held_nil, ?_⟩
      rw [List.foldr_nil, Rat.mul_one] at ew
      subst ew
      simp
      rw [wp_put_dct (kvs := pre.map fun r => (Nt r, R (pf bs r))) (by simp) (hd _)]
      exact ⟨pre ++ [r], by simp [e], by simp⟩
  · rintro _ _ ⟨pre, w1, w2, w3, w4, e, rfl, rfl⟩
    rw [List.append_nil] at e
    subst e
    refine ⟨held_nil, ?_⟩
    simp [Function.comp_def, hsz, e0]
    rw [wp_freeze_dct (kvs := (rows (bs.map List.length)).map fun r => (Nt r, R (pf bs r))) (by simp)]
    simp [Tb, Dp]
theorem s_law_raised {a c : Rat} {rest : List Rat} (ha : Sm 4000 a) (hc : Sm 4000 c) (hl : rest.length ≤ 100) : f_law_raised [.d (Rt (a :: c :: rest))] = ret (.d (Rt ((a + c) :: rest ++ [0]))) := by
  refine den_ret rfl rfl (ρ' := [some (.d (Rt (a :: c :: rest)))]) ?_
  have i0 : idxD (Rt (a :: c :: rest)) (.int 0) = some (R a) := by unfold Rt; simp
  have i1 : idxD (Rt (a :: c :: rest)) (.int 1) = some (R c) := by unfold Rt; simp
  have sl : sliD (Rt (a :: c :: rest)) (some 2) none = some (.tuple (rest.map R)) := by
    unfold Rt; rw [sli_tuple]; exact congrArg (fun x => some (PyData.tuple x)) (cut_from _ 2)
  have f1 : fits (1 + rest.length) = true := fits_k (by omega)
  have f2 : fits (rest.length + 1 + 1) = true := fits_k (by omega)
  simp [b_law_raised, c_law_raised, i0, i1, sl, s_law_plus ha hc, f1, f2, R0]
  simp [Rt]
theorem sum_two (l : List Row) (f g : Row → Rat) : (l.map fun r => f r + g r).sum = (l.map f).sum + (l.map g).sum := by
  induction l with
  | nil => simp [Rat.add_zero]
  | cons x l ih => simp only [List.map_cons, List.sum_cons, ih]; grind
theorem pairs_Nt (l : List Row) (f : Row → Rat) (hn : l.Nodup) (hl : l.length ≤ 1000) : b1D .dict (.list (l.map fun r => .tuple [Nt r, R (f r)])) = some (.dict (l.map fun r => (Nt r, R (f r)))) := by
  rw [dict_list, pairsOf_map, Option.bind_some]
  have := dputAll_map (ek := Nt) (ev := fun r => R (f r)) (ks := l) (pre := []) tupKey_Nt eqv_Nt hn hl
  simp only [List.map_nil, List.nil_append] at this
  rw [this]; rfl
theorem rows_le {sizes : List Nat} (h : SzOk sizes) : (rows sizes).length ≤ 1000 := by rw [len_rows]; have := h.2.2.2; omega
theorem s_law_blend {sizes : List Nat} {p q : Row → Rat} {s : Rat} (h : SzOk sizes) (hp : ∀ r ∈ rows sizes, Sm 100 (p r)) (hq : ∀ r ∈ rows sizes, Sm 100 (q r)) (hs : Sm 100 s) (ht : Sm 100 (1 - s)) :
    f_law_blend [.d (Tb sizes p), .d (Tb sizes q), .d (R s)] = ret (.d (Tb sizes fun r => s * p r + (1 - s) * q r)) := by
  refine den_ret rfl rfl (ρ' := [some (.d (Tb sizes p)), some (.d (Tb sizes q)), some (.d (R s)), some (.d (R (1 - s))), none]) ?_
  have h1 : comp [] (turn1 c_law_blend (.nm 4) [4] .nil (.tup (.cons (.var 4) (.cons (.call 0 (.cons (.call 1 (.cons (.var 2) (.cons (.idx (.idx (.var 0) (.con (.int 2))) (.var 4)) .nil))) (.cons (.call 1 (.cons (.var 3) (.cons (.idx (.idx (.var 1) (.con (.int 2))) (.var 4)) .nil))) .nil))) .nil)))
      [some (.d (Tb sizes p)), some (.d (Tb sizes q)), some (.d (R s)), some (.d (R (1 - s))), none]) ((rows sizes).map fun r => Val.d (Nt r)) = ret ((rows sizes).map fun r => .tuple [Nt r, R (s * p r + (1 - s) * q r)]) := by
    refine lc_map _ fun r hr => ?_
    have m1 := Sm_mul hs (hp r hr)
    have m2 := Sm_mul ht (hq r hr)
    simp [c_law_blend, idx_Dp hr, s_law_times (hs.mono (by decide)) ((hp r hr).mono (by decide)), s_law_times (ht.mono (by decide)) ((hq r hr).mono (by decide)), s_law_plus (m1.mono (by decide)) (m2.mono (by decide))]
  have hd := pairs_Nt (rows sizes) (fun r => s * p r + (1 - s) * q r) (rows_nodup sizes) (rows_le h)
  simp only [c_law_blend] at h1
  simp [b_law_blend, c_law_blend, R1, s_law_minus (Sm_one.mono (by decide)) (hs.mono (by decide)), Function.comp_def, h1, hd]
  rfl
theorem blend_ok {sizes : List Nat} {p q : Row → Rat} {s : Rat} {D E m a : Nat} (h : SzOk sizes) (d0 : D ≠ 0) (e0 : E ≠ 0) (dl : D < 2 ^ 100) (el : E < 2 ^ 100) (fp : ∀ r ∈ rows sizes, Fr D (p r)) (fq : ∀ r ∈ rows sizes, Fr E (q r)) (m0 : m ≠ 0) (ml : m ≤ 100) (al : a ≤ m) (es : s = (a : Rat) / (m : Rat))
    (p1 : ((rows sizes).map p).sum = 1) (q1 : ((rows sizes).map q).sum = 1) : TbOk sizes fun r => s * p r + (1 - s) * q r := by
  refine ⟨h, ⟨(m * D) * (m * E), Nat.mul_ne_zero (Nat.mul_ne_zero m0 d0) (Nat.mul_ne_zero m0 e0), ?_, fun r hr => ?_⟩, ?_⟩
  · have h1 : m * D ≤ 100 * 2 ^ 100 := Nat.mul_le_mul ml (Nat.le_of_lt dl)
    have h2 : m * E ≤ 100 * 2 ^ 100 := Nat.mul_le_mul ml (Nat.le_of_lt el)
    exact Nat.lt_of_le_of_lt (Nat.mul_le_mul h1 h2) (Nat.lt_of_lt_of_le (m := 2 ^ 220) (by decide) (Nat.pow_le_pow_right (by decide) (by decide)))
  · have m0' : (m : Rat) ≠ 0 := by simpa using m0
    have f1 : Fr (m * D) (s * p r) := Fr.mul m0 d0 ⟨a, es⟩ (fp r hr)
    have f2 : Fr (m * E) ((1 - s) * q r) := Fr.mul m0 e0 ⟨m - a, by
      have : ((m - a : Nat) : Rat) = (m : Rat) - (a : Rat) := by
        have := Rat.natCast_add (m - a) a
        rw [Nat.sub_add_cancel al] at this
        grind
      rw [this, es]; grind⟩ (fq r hr)
    refine Fr.add (Nat.mul_ne_zero (Nat.mul_ne_zero m0 d0) (Nat.mul_ne_zero m0 e0)) (f1.up (Nat.mul_ne_zero m0 d0) (Nat.mul_ne_zero m0 e0)) ?_
    rw [Nat.mul_comm]
    exact f2.up (Nat.mul_ne_zero m0 e0) (Nat.mul_ne_zero m0 d0)
  · rw [sum_two]
    have e1 : ((rows sizes).map fun r => s * p r) = (rows sizes).map fun r => p r * s := map_congr' fun r _ => Rat.mul_comm _ _
    have e2 : ((rows sizes).map fun r => (1 - s) * q r) = (rows sizes).map fun r => q r * (1 - s) := map_congr' fun r _ => Rat.mul_comm _ _
    rw [e1, e2, sum_mul, sum_mul, p1, q1]; grind
/-- a belief with all a level lower -/
theorem raised_ok {D : Nat} {a c : Rat} {rest : List Rat} (h : Bl D (a :: c :: rest)) : Bl D ((a + c) :: rest ++ [0]) := by
  obtain ⟨d0, dl, f, s⟩ := h
  refine ⟨d0, dl, fun q hq => ?_, ?_⟩
  · simp only [List.cons_append, List.mem_cons, List.mem_append, List.not_mem_nil, or_false] at hq
    rcases hq with rfl | hq | rfl
    · exact (f a (by simp)).add d0 (f c (by simp))
    · exact f q (by simp [hq])
    · exact Fr.zero D
  · rw [List.cons_append, List.sum_cons, sum_append]
    simp only [List.sum_cons, List.sum_nil] at s ⊢
    grind
end EV.Sp
end

section
set_option autoImplicit false
set_option linter.all false
set_option maxRecDepth 100000
set_option exponentiation.threshold 10000
/-! SpG: the law's drawn table. -/
namespace EV.Sp
open PySem
/-- _law_table(draws, sizes): 0 draws 1 sizes 2 way 3 rows 4 beliefs 5 parts 6 low 7 high 8 size 9 row 10 belief 11 part -/
def b_law_table : Ss :=
 (.cons (.asg (.tp [2, 3]) (.tup (.cons (.call 1 (.cons (.var 0) (.cons (.con (.int 5)) .nil))) (.cons (.call 7 (.cons (.var 1) .nil)) .nil))))
 (.cons (.asg (.nm 4) (.lc1 0 (.call 6 (.cons (.var 0) (.cons (.var 8) .nil))) (.nm 8) (.val (.var 1)) .nil [8]))
 (.cons (.ife (.cmp .Eq (.var 2) (.con (.int 0)))
 (.cons (.ret (.call 4 (.cons (.var 4) .nil)))
 .nil)
 .nil)
 (.cons (.ife (.cmp .In (.var 2) (.lst 0 (.cons (.con (.int 1)) (.cons (.con (.int 2)) .nil))))
 (.cons (.asg (.nm 6) (.lc1 0 (.ife (.or (.cons (.cmp .Eq (.var 2) (.con (.int 1))) (.cons (.cmp .Eq (.call 1 (.cons (.var 0) (.cons (.con (.int 2)) .nil))) (.con (.int 0))) .nil))) (.call 5 (.cons (.var 10) .nil)) (.var 10)) (.nm 10) (.val (.var 4)) .nil [10]))
 (.cons (.asg (.nm 7) (.lc1 0 (.ife (.or (.cons (.cmp .Eq (.var 2) (.con (.int 1))) (.cons (.cmp .Eq (.call 1 (.cons (.var 0) (.cons (.con (.int 2)) .nil))) (.con (.int 0))) .nil))) (.var 10) (.call 5 (.cons (.var 10) .nil))) (.nm 10) (.val (.var 4)) .nil [10]))
 (.cons (.ret (.call 3 (.cons (.call 4 (.cons (.var 6) .nil)) (.cons (.call 4 (.cons (.var 7) .nil)) (.cons (.call 2 (.cons (.var 0) (.cons (.lst 0 (.cons (.tup (.cons (.con (.int 1)) (.cons (.con (.int 2)) .nil))) (.cons (.tup (.cons (.con (.int 1)) (.cons (.con (.int 3)) .nil))) (.cons (.tup (.cons (.con (.int 9)) (.cons (.con (.int 10)) .nil))) .nil)))) .nil))) .nil)))))
 .nil)))
 .nil)
 (.cons (.asg (.nm 5) (.lc1 1 (.ife (.or (.cons (.cmp .Eq (.var 2) (.con (.int 3))) (.cons (.cmp .Eq (.call 1 (.cons (.var 0) (.cons (.con (.int 3)) .nil))) (.con (.int 0))) .nil))) (.call 1 (.cons (.var 0) (.cons (.call 2 (.cons (.var 0) (.cons (.lst 0 (.cons (.con (.int 2)) (.cons (.con (.int 2)) (.cons (.con (.int 5)) (.cons (.con (.int 30)) .nil))))) .nil))) .nil))) (.con (.int 0))) (.nm 9) (.val (.var 3)) .nil [9]))
 (.cons (.ife (.cmp .Eq (.b1 .sum 0 (.var 5)) (.con (.int 0)))
 (.cons (.sub (.var 5) (.call 1 (.cons (.var 0) (.cons (.b1 .len 0 (.var 3)) .nil))) (.con (.int 1)))
 .nil)
 .nil)
 (.cons (.ret (.tup (.cons (.con (.str "table")) (.cons (.var 1) (.cons (.b1 .dict 0 (.lc1 0 (.tup (.cons (.var 9) (.cons (.call 0 (.cons (.var 11) (.cons (.b1 .sum 0 (.var 5)) .nil))) .nil))) (.tp [9, 11]) (.zip (.var 3) (.var 5)) .nil [9, 11])) .nil)))))
 .nil)))))))
noncomputable def c_law_table : Ctx := ⟨[("_law_q", f_law_q), ("_law_draw", f_law_draw), ("_law_pick", f_law_pick), ("_law_blend", f_law_blend), ("_law_free", f_law_free), ("_law_raised", f_law_raised), ("_law_levels", f_law_levels), ("_law_rows_of", f_law_rows_of)], []⟩
noncomputable def f_law_table : Fn := den c_law_table 2 12 false b_law_table
theorem all2_bls {sizes : List Nat} {bs : List (List Rat)} (h : SzOk sizes) (a : All2 (fun size qs => (∃ D, Bl D qs) ∧ qs.length = size) sizes bs) : Bls bs ∧ bs.map List.length = sizes := by
  have e : bs.map List.length = sizes := by
    clear h
    induction a with
    | nil => rfl
    | cons p _ ih => simp [p.2, ih]
  refine ⟨⟨by rw [e]; exact h, fun b hb => ?_⟩, e⟩
  obtain ⟨_, _, q⟩ := a.all b hb
  exact q.1
theorem all2_low {bs cs : List (List Rat)} (h : Bls bs) (a : All2 (fun b c => (∃ D, Bl D c) ∧ c.length = b.length) bs cs) : Bls cs ∧ cs.map List.length = bs.map List.length := by
  have e : cs.map List.length = bs.map List.length := by
    clear h
    induction a with
    | nil => rfl
    | cons p _ ih => simp [p.2, ih]
  refine ⟨⟨by rw [e]; exact h.1, fun b hb => ?_⟩, e⟩
  obtain ⟨_, _, q⟩ := a.all b hb
  exact q.1
theorem Bls.mem {bs : List (List Rat)} (h : Bls bs) {b : List Rat} (hb : b ∈ bs) : (∃ D, Bl D b) ∧ 2 ≤ b.length ∧ b.length ≤ 4 :=
  ⟨h.2 b hb, h.1.2.2.1 b.length (List.mem_map_of_mem hb)⟩
/-- a belief, or it with all a level lower -/
theorem raise_ok {b : List Rat} (h : (∃ D, Bl D b) ∧ 2 ≤ b.length ∧ b.length ≤ 4) : ∃ c : List Rat, f_law_raised [.d (Rt b)] = ret (.d (Rt c)) ∧ (∃ D, Bl D c) ∧ c.length = b.length := by
  obtain ⟨⟨D, hD⟩, h2, h4⟩ := h
  cases b with
  | nil => simp at h2
  | cons a b => cases b with
    | nil => simp at h2
    | cons c rest =>
      simp only [List.length_cons] at h4
      exact ⟨_, s_law_raised ((hD.sm (by simp)).mono (by decide)) ((hD.sm (by simp)).mono (by decide)) (by omega), ⟨D, raised_ok hD⟩, by simp⟩
theorem pf_sm {bs : List (List Rat)} (h : Bls bs) {r : Row} (hr : r ∈ rows (bs.map List.length)) : Sm 21 (pf bs r) := by
  obtain ⟨D, d0, dl, f⟩ := pf_fr bs h.2
  have := h.1.2.1
  rw [List.length_map] at this
  exact (f r hr).sm d0 (Nat.lt_of_le_of_lt (Nat.le_trans dl (Nat.pow_le_pow_right (by decide) this)) (by decide)) ((pf_ok h).ch hr).2
theorem blend_pf {sizes : List Nat} {bs cs : List (List Rat)} (hb : Bls bs) (hc : Bls cs) (eb : bs.map List.length = sizes) (ec : cs.map List.length = sizes) {a m : Nat} (m0 : m ≠ 0) (ml : m ≤ 100) (al : a ≤ m) :
    TbOk sizes fun r => (a : Rat) / (m : Rat) * pf bs r + (1 - (a : Rat) / (m : Rat)) * pf cs r := by
  subst eb
  obtain ⟨D, d0, dl, f⟩ := pf_fr bs hb.2
  obtain ⟨E, e0, el, f'⟩ := pf_fr cs hc.2
  have l4 := hb.1.2.1
  rw [List.length_map] at l4
  have l4' := hc.1.2.1
  rw [List.length_map] at l4'
  refine blend_ok hb.1 d0 e0 (Nat.lt_of_le_of_lt (Nat.le_trans dl (Nat.pow_le_pow_right (by decide) l4)) (by decide)) (Nat.lt_of_le_of_lt (Nat.le_trans el (Nat.pow_le_pow_right (by decide) l4')) (by decide)) f (fun r hr => f' r (by rw [ec]; exact hr)) m0 ml al rfl (pf_sum bs hb.2) ?_
  rw [← ec]; exact pf_sum cs hc.2
theorem in12 (k : Nat) : cmpD .In (.int (k : Nat)) (.list [.int 1, .int 2]) = some (decide (k = 1 ∨ k = 2)) := by
  have sh : shaped (.list [.int 1, .int 2]) = true := shaped_ints [1, 2]
  rw [cmp_in_list (shaped_int _) sh]
  simp only [memD, List.any_cons, List.any_nil, eqv_int, Bool.or_false]
  by_cases h1 : k = 1
  · subst h1; rfl
  · by_cases h2 : k = 2
    · subst h2; rfl
    · have e1 : ¬((1 : Int) = k) := by omega
      have e2 : ¬((2 : Int) = k) := by omega
      simp [h1, h2, e1, e2]
theorem R_of {q : Rat} {n : Int} {d : Nat} (h : q.num = n) (k : q.den = d) : R q = .tuple [.int n, .int d] := by unfold R; rw [h, k]
/-- the share -/
theorem share_ok {n g b : Nat} {st : Sto} (d : DS n g (b + 1) st) : wp (f_law_pick [.ref n, .d (.list [.tuple [.int 1, .int 2], .tuple [.int 1, .int 3], .tuple [.int 9, .int 10]])]) (fun v s => (∃ a m : Nat, m ≠ 0 ∧ m ≤ 100 ∧ a ≤ m ∧ Sm 100 ((a : Rat) / (m : Rat)) ∧ Sm 100 (1 - (a : Rat) / (m : Rat)) ∧ v = .d (R ((a : Rat) / (m : Rat)))) ∧ Dr n g b st s) st := by
  refine (s_law_pick d (by simp) (by simp)).mono ?_
  rintro _ s ⟨⟨x, hx, rfl⟩, dr⟩
  simp only [List.mem_cons, List.not_mem_nil, or_false] at hx
  rcases hx with rfl | rfl | rfl
  · exact ⟨⟨1, 2, by decide, by decide, by decide, by constructor <;> decide +kernel, by constructor <;> decide +kernel, congrArg Val.d (R_of (by decide +kernel) (by decide +kernel)).symm⟩, dr⟩
  · exact ⟨⟨1, 3, by decide, by decide, by decide, by constructor <;> decide +kernel, by constructor <;> decide +kernel, congrArg Val.d (R_of (by decide +kernel) (by decide +kernel)).symm⟩, dr⟩
  · exact ⟨⟨9, 10, by decide, by decide, by decide, by constructor <;> decide +kernel, by constructor <;> decide +kernel, congrArg Val.d (R_of (by decide +kernel) (by decide +kernel)).symm⟩, dr⟩
def lk : List Row → List Nat → Row → Nat
  | r :: rs, k :: ks, x => if x = r then k else lk rs ks x
  | _, _, _ => 0
theorem zip_lk : ∀ (rs : List Row) (ks : List Nat), rs.Nodup → ks.length = rs.length → rs.zip ks = rs.map fun r => (r, lk rs ks r)
  | [], ks, _, _ => by simp
  | r :: rs, [], _, h => by simp at h
  | r :: rs, k :: ks, hn, h => by
    obtain ⟨h1, h2⟩ := List.nodup_cons.mp hn
    simp only [List.zip_cons_cons, List.map_cons, lk, if_true]
    rw [zip_lk rs ks h2 (by simpa using h)]
    refine congrArg _ (map_congr' fun x hx => ?_)
    have : ¬ x = r := fun z => h1 (z ▸ hx)
    simp [this]
theorem map_lk (rs : List Row) (ks : List Nat) (hn : rs.Nodup) (h : ks.length = rs.length) : rs.map (lk rs ks) = ks := by
  have := congrArg (List.map Prod.snd) (zip_lk rs ks hn h)
  rw [List.map_snd_zip (by omega), List.map_map] at this
  exact this.symm
theorem wp_zip_d_lst {st : Sto} {n : Nat} {xs ys : List Dt} {x : Dt} {Q : List Val × List Nat → Sto → Prop} (h : st[n]? = some (.lst ys)) (hx : seqD x = some xs) : wp (zipV (.d x) (.ref n)) Q st = Q ((xs.zip ys).map fun p => .d (.tuple [p.1, p.2]), [n]) st := by
  simp only [wp, zipV, look, h, Option.bind_some, Cell.dat, hx, seq_list, guard1, List.nil_append]
theorem s_law_table {n g b : Nat} {st : Sto} {sizes : List Nat} (h : SzOk sizes) (d : DS n g (b + 1000) st) : wp (f_law_table [.ref n, .d (Nt sizes)]) (fun v s => (∃ p, TbOk sizes p ∧ v = .d (Tb sizes p)) ∧ Dr n g b st s) st := by
  have hn := d.lt
  have gn := d.gn
  have hl4 := h.2.1
  unfold f_law_table
  generalize hb : b_law_table = bb
  refine wp_den (ρ0 := [some (.ref n), some (.d (Nt sizes)), none, none, none, none, none, none, none, none, none, none]) rfl rfl ?_
  subst hb
  simp [-andThen_nx, b_law_table, c_law_table]
  refine (s_law_draw (r := 5) (b := b + 999) (d.mono (by omega)) (by decide) (by decide)).mono ?_
  rintro _ s1 ⟨way, hway, rfl, dr1⟩
  simp [-andThen_nx, s_law_rows_of h, Function.comp_def]
  simp [-andThen_nx, andThen_nx (ss := .cons _ _), Function.comp_def]
  refine (wp_comp_draw 20 Rt (fun size qs => (∃ D, Bl D qs) ∧ qs.length = size) (b := b + 900) (dr1.2.1.mono (by omega)) fun x hx b s ds => ?_).mono ?_
  · have hx' := h.2.2.1 x hx
    simp
    refine (s_law_levels hx' ds).mono ?_
    rintro _ s' ⟨⟨D, qs, hD, ql, rfl⟩, dr⟩
    simp
    exact ⟨⟨qs, rfl, ⟨D, hD⟩, ql⟩, dr⟩
  rintro _ s2 ⟨⟨bs, rfl, a⟩, dr2⟩
  obtain ⟨hB, eB⟩ := all2_bls h a
  have dr12 := dr1.trans dr2
  simp
  by_cases w0 : way = 0
  · subst w0
    simp [s_law_free hB, eB]
    have dr := dr12.mono (c := b) (by omega)
    exact left_dr dr d ⟨⟨pf bs, by have := pf_ok hB; rwa [eB] at this, rfl⟩, dr⟩
  have w0' : ¬((way : Int) = 0) := by omega
  simp [w0, w0', in12]
  have hbl : bs.length ≤ 4 := by
    have := congrArg List.length eB
    rw [List.length_map] at this; omega
  by_cases w12 : way = 1 ∨ way = 2
  · simp [w12]
    have low : ∀ (e1 e2 : E) (ρ : Env) (b : Nat) (s : Sto), DS n g (b + 4) s → (∀ x ∈ bs, ∀ b s, DS n g (b + 1) s → wp (turn1 c_law_table (.nm 10) [10] .nil e1 ρ (.d (Rt x))) (fun ys s' => (∃ z, ys = [Rt z] ∧ (∃ D, Bl D z) ∧ z.length = x.length) ∧ Dr n g b s s') s) →
        wp (comp [] (turn1 c_law_table (.nm 10) [10] .nil e1 ρ) (bs.map fun x => .d (Rt x))) (fun ys s' => (∃ cs, ys = cs.map Rt ∧ Bls cs ∧ cs.map List.length = sizes) ∧ Dr n g b s s') s := by
      intro e1 e2 ρ b s ds hx
      refine (wp_comp_draw 1 Rt (fun b c => (∃ D, Bl D c) ∧ c.length = b.length) (b := b) (ds.mono (by omega)) fun x hx' b s ds => hx x hx' b s ds).mono ?_
      rintro _ s' ⟨⟨cs, rfl, a⟩, dr⟩
      obtain ⟨h1, h2⟩ := all2_low hB a
      exact ⟨⟨cs, rfl, h1, by rw [h2, eB]⟩, dr⟩
    simp only [c_law_table] at low
    refine (low _ (.con .none) _ (b + 800) s2 (dr2.2.1.mono (by omega)) fun x hx b s ds => ?_).mono ?_
    · obtain ⟨c, hc, hD, hlen⟩ := raise_ok (hB.mem hx)
      simp
      by_cases w1 : way = 1
      · subst w1
        simp [hc]
        exact ⟨⟨c, rfl, hD, hlen⟩, Dr.refl (ds.mono (by omega))⟩
      · have w1' : ¬((way : Int) = 1) := by omega
        simp [w1, w1']
        refine (s_law_draw (r := 2) ds (by decide) (by decide)).mono ?_
        rintro _ s' ⟨k, hk, rfl, dr⟩
        simp
        by_cases k0 : k = 0
        · simp [k0, hc]
          exact ⟨⟨c, rfl, hD, hlen⟩, dr⟩
        · simp [k0]
          exact ⟨⟨x, rfl, (hB.mem hx).1, rfl⟩, dr⟩
    rintro _ s3 ⟨⟨cs, rfl, hC, eC⟩, dr3⟩
    refine (low _ (.con .none) _ (b + 700) s3 (dr3.2.1.mono (by omega)) fun x hx b s ds => ?_).mono ?_
    · obtain ⟨c, hc, hD, hlen⟩ := raise_ok (hB.mem hx)
      simp
      by_cases w1 : way = 1
      · subst w1
        simp
        exact ⟨⟨x, rfl, (hB.mem hx).1, rfl⟩, Dr.refl (ds.mono (by omega))⟩
      · have w1' : ¬((way : Int) = 1) := by omega
        simp [w1, w1']
        refine (s_law_draw (r := 2) ds (by decide) (by decide)).mono ?_
        rintro _ s' ⟨k, hk, rfl, dr⟩
        simp
        by_cases k0 : k = 0
        · simp [k0]
          exact ⟨⟨x, rfl, (hB.mem hx).1, rfl⟩, dr⟩
        · simp [k0, hc]
          exact ⟨⟨c, rfl, hD, hlen⟩, dr⟩
    rintro _ s4 ⟨⟨es, rfl, hE, eE⟩, dr4⟩
    simp [s_law_free hC, s_law_free hE, eC, eE]
    refine (share_ok (b := b) (dr4.2.1.mono (by omega))).mono ?_
    rintro _ s5 ⟨⟨a, m, m0, ml, al, sa, sb, rfl⟩, dr5⟩
    have hp : ∀ r ∈ rows sizes, Sm 100 (pf cs r) := fun r hr => (pf_sm hC (by rw [eC]; exact hr)).mono (by decide)
    have hq : ∀ r ∈ rows sizes, Sm 100 (pf es r) := fun r hr => (pf_sm hE (by rw [eE]; exact hr)).mono (by decide)
    simp [s_law_blend h hp hq sa sb]
    have dr := ((dr12.trans dr3).trans dr4).trans dr5
    exact left_dr dr d ⟨⟨_, blend_pf hC hE eC eE m0 ml al, rfl⟩, dr⟩
  · simp [w12]
    have hR : (rows sizes).length ≤ 36 := by rw [len_rows]; exact h.2.2.2
    have key : ∀ (s : Sto) (js : List Nat) (w6 w7 : Option Val), js.length = (rows sizes).length → (∀ k ∈ js, k ≤ 29) → js.sum ≠ 0 → s[st.length]? = some (.lst (js.map fun k => .int (k : Nat))) → Drx n g b st s →
        wp (exs c_law_table (.cons (.ret (.tup (.cons (.con (.str "table")) (.cons (.var 1) (.cons (.b1 .dict 0 (.lc1 0 (.tup (.cons (.var 9) (.cons (.call 0 (.cons (.var 11) (.cons (.b1 .sum 0 (.var 5)) .nil))) .nil))) (.tp [9, 11]) (.zip (.var 3) (.var 5)) .nil [9, 11])) .nil))))) .nil)
          [some (.ref n), some (.d (Nt sizes)), some (.d (.int way)), some (.d (.list ((rows sizes).map Nt))), some (.d (.list (bs.map Rt))), some (.ref st.length), w6, w7, none, none, none, none]) (Left st (fun v s => (∃ p, TbOk sizes p ∧ v = .d (Tb sizes p)) ∧ Dr n g b st s)) s := by
      intro s js w6 w7 jl j29 j0 c1 dx
      have jle : js.sum ≤ 1044 := by
        have := sum_le j29
        rw [jl] at this; omega
      simp
      rw [wp_zip_d_lst c1 (seq_list _)]
      have ez : (((rows sizes).map Nt).zip (js.map fun k => .int (k : Nat))).map (fun p => Val.d (.tuple [p.1, p.2])) = ((rows sizes).zip js).map fun p => Val.d (.tuple [Nt p.1, .int (p.2 : Nat)]) := zip_maps Nt (fun k : Nat => .int k) _ _
      rw [ez]
      refine wp.mono (Q := fun ys s' => ys = (((rows sizes).zip js).map fun p => .tuple [Nt p.1, R ((p.2 : Rat) / (js.sum : Nat))]) ∧ s' = s) ?_ ?_
      · refine wp_comp (fun rest ys s' => s' = s ∧ ∃ pre, (rows sizes).zip js = pre ++ rest ∧ ys = pre.map fun p => .tuple [Nt p.1, R ((p.2 : Rat) / (js.sum : Nat))]) ⟨rfl, [], rfl, rfl⟩ ?_ ?_
        · rintro q rest _ _ ⟨rfl, pre, e, rfl⟩
          refine ⟨fun _ _ => rfl, ?_⟩
          simp [c_law_table]
          rw [wp_dat_lst c1]
          simp [intsOf_map, sum_ints, q_nat j0 (by omega)]
          exact ⟨pre ++ [q], by simp [e], by simp⟩
        · rintro _ _ ⟨rfl, pre, e, rfl⟩
          rw [List.append_nil] at e
          subst e
          exact ⟨fun _ _ => rfl, rfl, rfl⟩
      · rintro _ _ ⟨rfl, rfl⟩
        have hd := pairs_Nt (rows sizes) (fun r => (lk (rows sizes) js r : Rat) / (js.sum : Nat)) (rows_nodup sizes) (rows_le h)
        rw [zip_lk _ _ (rows_nodup sizes) jl, List.map_map]
        simp [Function.comp_def, hd]
        refine left_ret dx d ⟨⟨fun r => (lk (rows sizes) js r : Rat) / (js.sum : Nat), ⟨h, ⟨js.sum, j0, Nat.lt_of_le_of_lt jle (Nat.lt_of_lt_of_le (m := 2 ^ 11) (by decide) (Nat.pow_le_pow_right (by decide) (by decide))), fun r _ => ⟨_, rfl⟩⟩, ?_⟩, rfl⟩, dx.2⟩
        have e6 : ((rows sizes).map fun r => (lk (rows sizes) js r : Rat) / (js.sum : Nat)) = js.map fun k : Nat => (k : Rat) / (js.sum : Nat) := by
          conv => rhs; rw [← map_lk (rows sizes) js (rows_nodup sizes) jl]
          rw [List.map_map]
          simp only [map_lk (rows sizes) js (rows_nodup sizes) jl]
          rfl
        rw [e6, sum_div]
        have : ((js.sum : Nat) : Rat) ≠ 0 := by exact_mod_cast j0
        grind
    have w3 : (way : Int) = 3 ↔ way = 3 := by omega
    refine (wp_comp_draw 3 (fun k : Nat => .int k) (fun _ k => k ≤ 29) (b := b + 1) (dr2.2.1.mono (by omega)) fun x hx b s ds => ?_).mono ?_
    · have part : ∀ (b : Nat) (s0 s : Sto), DS n g (b + 2) s → Dr n g (b + 2) s0 s → wp (f_law_pick [.ref n, .d (.list [.int 2, .int 2, .int 5, .int 30])]) (fun v s1 => wp (f_law_draw [.ref n, v]) (fun v s2 => (∃ k : Nat, k ≤ 29 ∧ v = .d (.int k)) ∧ Dr n g b s0 s2) s1) s := by
        intro b s0 s ds dr0
        refine (pick_nat (ks := [2, 2, 5, 30]) (by simp) (b := b + 1) ds (by simp) (by simp)).mono ?_
        rintro _ s1 ⟨⟨m, hm, rfl⟩, dr1⟩
        have hm' : 0 < m ∧ m ≤ 30 := by
          have : ∀ m ∈ [2, 2, 5, 30], 0 < m ∧ m ≤ 30 := by decide
          exact this m hm
        refine (s_law_draw dr1.2.1 hm'.1 (by omega)).mono ?_
        rintro _ s2 ⟨k, hk, rfl, dr2⟩
        exact ⟨⟨k, by omega, rfl⟩, (dr0.trans dr1).trans dr2⟩
      simp
      by_cases h3 : way = 3
      · subst h3
        simp
        refine (part b s s (ds.mono (by omega)) (Dr.refl (ds.mono (by omega)))).mono ?_
        intro v s1 hv
        refine hv.mono ?_
        rintro _ s2 ⟨⟨k, hk, rfl⟩, dr⟩
        simp
        exact ⟨⟨k, rfl, hk⟩, dr⟩
      · simp [w3, h3]
        refine (s_law_draw (r := 3) (b := b + 2) ds (by decide) (by decide)).mono ?_
        rintro _ s1 ⟨k, hk, rfl, dr1⟩
        simp
        by_cases k0 : k = 0
        · simp [k0]
          refine (part b s s1 dr1.2.1 dr1).mono ?_
          intro v s2 hv
          refine hv.mono ?_
          rintro _ s3 ⟨⟨k, hk, rfl⟩, dr⟩
          simp
          exact ⟨⟨k, rfl, hk⟩, dr⟩
        · simp [k0]
          exact ⟨⟨0, by simp, by simp⟩, dr1.mono (by omega)⟩
    · rintro _ s3 ⟨⟨ks, rfl, a⟩, dr3⟩
      have kl : ks.length = (rows sizes).length := a.len
      have k29 : ∀ k ∈ ks, k ≤ 29 := fun k hk => by obtain ⟨_, _, q⟩ := a.all k hk; exact q
      have dr := dr12.trans dr3
      have c1 : (s3 ++ [Cell.lst (ks.map fun k => .int (k : Nat))])[st.length]? = some (.lst (ks.map fun k => .int (k : Nat))) := by rw [← dr.1]; simp
      have dx := (dr.drx).app (t := [Cell.lst (ks.map fun k => .int (k : Nat))])
      rw [dr.1, wp_dat_lst c1]
      simp [intsOf_map, sum_ints]
      split
      · rename_i hz
        have hz' : ks.sum = 0 := by exact_mod_cast hz
        refine (s_law_draw (dx.ds) (r := (rows sizes).length) (by rw [len_rows]; exact prod_pos h.2.2.1) (by omega)).mono ?_
        rintro _ s5 ⟨k, hk, rfl, dr5⟩
        have hk' : k < ks.length := by rw [kl]; exact hk
        have c2 : s5[st.length]? = some (.lst (ks.map fun k => .int (k : Nat))) := by rw [dr5.far hn gn]; exact c1
        rw [wp_put_lst c2 (by simpa using hk')]
        have := key (s5.set st.length (.lst ((ks.set k 1).map fun k => .int (k : Nat)))) (ks.set k 1) none none (by simp [kl]) (fun j hj => by
          rcases List.mem_or_eq_of_mem_set hj with hj | rfl
          · exact k29 j hj
          · omega) (by rw [sum_set ks k hk' hz']; decide) (by
            have : st.length < s5.length := (List.getElem?_eq_some_iff.mp c2).1
            simp [this]) ((dx.trans dr5).set (Nat.le_refl _))
        have e5 : (ks.map fun k : Nat => PyData.int (k : Nat)).set k (.int 1) = (ks.set k 1).map fun k : Nat => .int (k : Nat) := by rw [List.map_set]; rfl
        rw [e5]
        simpa [c_law_table] using this
      · rename_i hz
        have hz' : ks.sum ≠ 0 := by exact_mod_cast hz
        have := key _ ks none none kl k29 hz' c1 (dx.mono (by omega))
        simpa [c_law_table] using this
end EV.Sp
end

section
set_option autoImplicit false
set_option linter.all false
set_option maxRecDepth 100000
/-! SpS: alike in kind and content. -/
namespace EV.Sp
open PySem
/-- _law_is_truth(found, due): 0 found 1 due -/
def b_law_is_truth : Ss :=
 (.cons (.ret (.ife (.var 1) (.cmp .Is (.var 0) (.con (.bool true))) (.cmp .Is (.var 0) (.con (.bool false)))))
 .nil)
noncomputable def c_law_is_truth : Ctx := ⟨[], []⟩
noncomputable def f_law_is_truth : Fn := den c_law_is_truth 2 2 false b_law_is_truth
/-- _law_same(found, due): 0 found 1 due 2 waiting 3 one 4 other 5 alike 6 key 7 left 8 right -/
def b_law_same : Ss :=
 (.cons (.asg (.nm 2) (.lst 1 (.cons (.tup (.cons (.var 0) (.cons (.var 1) .nil))) .nil)))
 (.cons (.whl (.cmp .NotEq (.var 2) (.lst 0 .nil))
 (.cons (.asg (.tp [3, 4]) (.mt .pop (.var 2) .nil))
 (.cons (.ife (.or (.cons (.cmp .Is (.var 4) (.con .none)) (.cons (.isi (.var 4) [.bool]) .nil)))
 (.cons (.ife (.ife (.cmp .Is (.var 4) (.con .none)) (.cmp .IsNot (.var 3) (.con .none)) (.not (.call 0 (.cons (.var 3) (.cons (.var 4) .nil)))))
 (.cons (.ret (.con (.bool false)))
 .nil)
 .nil)
 .nil)
 (.cons (.ife (.isi (.var 4) [.int, .str])
 (.cons (.ife (.or (.cons (.isi (.var 3) [.bool]) (.cons (.cmp .NotEq (.isi (.var 3) [.int]) (.isi (.var 4) [.int])) (.cons (.cmp .NotEq (.var 3) (.var 4)) .nil))))
 (.cons (.ret (.con (.bool false)))
 .nil)
 .nil)
 .nil)
 (.cons (.ife (.isi (.var 4) [.dict])
 (.cons .nev .nil)
 (.cons (.asg (.nm 5) (.lst 0 (.cons (.and (.cons (.isi (.var 3) [.tuple]) (.cons (.isi (.var 4) [.tuple]) .nil))) (.cons (.and (.cons (.isi (.var 3) [.list]) (.cons (.isi (.var 4) [.list]) .nil))) .nil))))
 (.cons (.ife (.or (.cons (.cmp .NotIn (.con (.bool true)) (.var 5)) (.cons (.cmp .NotEq (.b1 .len 0 (.var 3)) (.b1 .len 0 (.var 4))) .nil)))
 (.cons (.ret (.con (.bool false)))
 .nil)
 .nil)
 (.cons (.exp (.mt .extend (.var 2) (.cons (.lc1 1 (.tup (.cons (.var 7) (.cons (.var 8) .nil))) (.tp [7, 8]) (.zip (.var 3) (.var 4)) .nil [7, 8]) .nil)))
 .nil))))
 .nil))
 .nil))
 .nil)))
 (.cons (.ret (.con (.bool true)))
 .nil)))
noncomputable def c_law_same : Ctx := ⟨[("_law_is_truth", f_law_is_truth)], []⟩
noncomputable def f_law_same : Fn := den c_law_same 2 9 false b_law_same
theorem s_law_is_truth (b : Bool) : f_law_is_truth [.d (.bool b), .d (.bool b)] = ret (.d (.bool true)) := by
  refine den_ret rfl rfl (ρ' := [some (.d (.bool b)), some (.d (.bool b))]) ?_
  cases b <;> simp [b_law_is_truth]
mutual
def szD : Dt → Nat
  | .list xs => szAll xs + 1
  | .tuple xs => szAll xs + 1
  | .dict _ => 1
  | .none => 1
  | .bool _ => 1
  | .int _ => 1
  | .str _ => 1
def szAll : List Dt → Nat
  | [] => 0
  | x :: xs => szD x + szAll xs
end
theorem szAll_app (a b : List Dt) : szAll (a ++ b) = szAll a + szAll b := by
  induction a with
  | nil => simp [szAll]
  | cons x a ih => simp only [List.cons_append, szAll, ih]; omega
theorem szD_pos (x : Dt) : 0 < szD x := by cases x <;> simp [szD]
theorem len_szAll (a : List Dt) : a.length ≤ szAll a := by
  induction a with
  | nil => simp
  | cons x a ih => simp only [List.length_cons, szAll]; have := szD_pos x; omega
/-- no dict within, not too deep -/
def Pl (x : Dt) : Prop := x.canLay0 = true ∧ x.depth ≤ 60
theorem Pl.kids {xs : List Dt} (h : Pl (.tuple xs)) : ∀ x ∈ xs, Pl x := by
  obtain ⟨h1, h2⟩ := h
  simp only [PyData.canLay0, PyData.depth] at h1 h2
  intro x hx
  have a : ∀ l : List Dt, x ∈ l → PyData.canLayAll0 l = true → x.canLay0 = true := by
    intro l; induction l with
    | nil => intro h; cases h
    | cons y l ih =>
      intro h k
      simp only [PyData.canLayAll0, Bool.and_eq_true] at k
      rcases List.mem_cons.mp h with rfl | h
      · exact k.1
      · exact ih h k.2
  have b : ∀ l : List Dt, x ∈ l → x.depth ≤ PyData.depthAll l := by
    intro l; induction l with
    | nil => intro h; cases h
    | cons y l ih =>
      intro h
      simp only [PyData.depthAll]
      rcases List.mem_cons.mp h with rfl | h
      · exact Nat.le_max_left _ _
      · exact Nat.le_trans (ih h) (Nat.le_max_right _ _)
  exact ⟨a xs hx h1, by have := b xs hx; omega⟩
theorem Pl.list {xs : List Dt} (h : Pl (.list xs)) : Pl (.tuple xs) := h
def pairD (z : Dt) : Dt := .tuple [z, z]
theorem shaped_pairs {zs : List Dt} (h : ∀ z ∈ zs, Pl z) : shaped (.list (zs.map pairD)) = true := by
  refine shaped_list 61 (by decide) fun z hz => ?_
  obtain ⟨h1, h2⟩ := h z hz
  constructor
  · simp [pairD, PyData.canLay0, PyData.canLayAll0, h1]
  · simp only [pairD, PyData.depth, PyData.depthAll]; omega
theorem shaped_Pl {x : Dt} (h : Pl x) : shaped x = true := by rw [shaped_iff, h.1, Bool.true_and]; exact decide_eq_true (by have := h.2; omega)
theorem in_alike (a b : Bool) : cmpD .NotIn (.bool true) (.list [.bool a, .bool b]) = some (!(a || b)) := by
  have : shaped (.list [.bool a, .bool b]) = true := by rw [shaped_lst]; rfl
  rw [cmp_notin_list (shaped_bool _) this]
  cases a <;> cases b <;> simp [memD]
theorem s_law_same {x : Dt} (h : Pl x) (hs : szD x ≤ 1000000) : f_law_same [.d x, .d x] = ret (.d (.bool true)) := by
  refine den_ev (ρ0 := [some (.d x), some (.d x), none, none, none, none, none, none, none]) rfl rfl fun st => ?_
  unfold b_law_same
  simp only [exs_cons, ex_asg, ev_lst, evs_cons, evs_nil, ev_tup, ev_var, lookEnv_s, lookEnv_z, bnd_ret, datas_cons, datas_nil, Option.map_some, opt_some, wp_bnd]
  rw [wp_list1 (xs := [.tuple [x, x]]) (by simp)]
  simp only [bind1_nm, wp_bnd, wp_ret, List.set_cons_succ, List.set_cons_zero, andThen_nx, exs_cons, ex_whl]
  refine wp_whl (fun m ρ s => ∃ zs w1 w2 w3, m = szAll zs ∧ szAll zs ≤ 1000000 ∧ (∀ z ∈ zs, Pl z) ∧ st.length < s.length ∧ s.take st.length = st ∧ s[st.length]? = some (.lst (zs.map pairD)) ∧ ρ = [some (.d x), some (.d x), some (.ref st.length), w1, w2, w3, none, none, none])
    ⟨[x], none, none, none, rfl, by simpa [szAll] using hs, by simpa using h, by simp, by simp, by simp [pairD], rfl⟩ ?_
  rintro _ _ s ⟨zs, w1, w2, w3, rfl, hz, hp, hl, ht, c1, rfl⟩
  have fin : ∀ s : Sto, st.length < s.length → s.take st.length = st → ∃ t, s = st ++ t := fun s a b => ⟨s.drop st.length, by conv => lhs; rw [← List.take_append_drop st.length s, b]⟩
  simp
  rw [wp_cmpV, wp_dat_lst c1]
  simp [shaped_pairs hp]
  rcases List.eq_nil_or_concat zs with rfl | ⟨ys, z, rfl⟩
  · simp
    exact fin s hl ht
  · simp only [List.concat_eq_append] at *
    have pz : Pl z := hp z (by simp)
    have py : ∀ y ∈ ys, Pl y := fun y hy => hp y (by simp [hy])
    have hs1 : szAll (ys ++ [z]) = szAll ys + szD z := by rw [szAll_app]; simp [szAll]
    simp
    rw [wp_mtK c1, wp_pop (xs := ys.map pairD) (y := pairD z) (by rw [c1]; simp)]
    have c2 : (s.set st.length (.lst (ys.map pairD)))[st.length]? = some (.lst (ys.map pairD)) := by simp [hl]
    have ht2 : (s.set st.length (.lst (ys.map pairD))).take st.length = st := by rw [List.take_set_of_le (Nat.le_refl _), ht]
    have hl2 : (s.set st.length (.lst (ys.map pairD))).length > st.length := by simpa using hl
    generalize s.set st.length (.lst (ys.map pairD)) = s2 at *
    have done : ∃ m, m < szAll (ys ++ [z]) ∧ ∃ zs, m = szAll zs ∧ szAll zs ≤ 1000000 ∧ (∀ z ∈ zs, Pl z) ∧ st.length < s2.length ∧ s2.take st.length = st ∧ s2[st.length]? = some (.lst (zs.map pairD)) := by
      have := szD_pos z
      exact ⟨szAll ys, by omega, ys, rfl, by omega, py, hl2, ht2, c2⟩
    have sh := shaped_Pl pz
    have kids : ∀ (ks : List Dt) (w1 w2 w3 : Option Val), szD z = szAll ks + 1 → (∀ k ∈ ks, Pl k) → wp (mtK (.ref st.length)) (fun a s => wp (comp [] (turn1 c_law_same (.tp [7, 8]) [7, 8] .nil (.tup (.cons (.var 7) (.cons (.var 8) .nil))) [some (.d x), some (.d x), some (.ref st.length), w1, w2, w3, none, none, none]) (List.map (fun p => .d (.tuple [p.fst, p.snd])) (ks.zip ks))) (fun a s => wp (mtV .extend (.ref st.length) [.ref s.length]) (fun a s => ∃ m, m < szAll (ys ++ [z]) ∧ ∃ zs, m = szAll zs ∧ szAll zs ≤ 1000000 ∧ (∀ (z : Dt), z ∈ zs → Pl z) ∧ st.length < s.length ∧ s.take st.length = st ∧ s[st.length]? = some (.lst (zs.map pairD))) (s ++ [.lst a])) s) s2 := by
      intro ks w1 w2 w3 e hk
      have ez : ks.zip ks = ks.map fun k => (k, k) := by
        clear e hk; induction ks with
        | nil => rfl
        | cons k ks ih => simp [ih]
      rw [wp_mtK c2, ez, List.map_map]
      have h1 : comp [] (turn1 c_law_same (.tp [7, 8]) [7, 8] .nil (.tup (.cons (.var 7) (.cons (.var 8) .nil))) [some (.d x), some (.d x), some (.ref st.length), w1, w2, w3, none, none, none]) (ks.map fun k => Val.d (.tuple [k, k])) = ret (ks.map pairD) := by
        refine lc_map _ fun k hk => ?_
        simp [pairD]
      have e2 : ((fun p => Val.d (.tuple [p.fst, p.snd])) ∘ fun k => (k, k)) = fun k : Dt => Val.d (.tuple [k, k]) := rfl
      rw [e2, h1, wp_ret]
      have c3 : (s2 ++ [Cell.lst (ks.map pairD)])[st.length]? = some (.lst (ys.map pairD)) := by rw [List.getElem?_append_left hl2]; exact c2
      have l1 := len_szAll ys
      have l2 := len_szAll ks
      rw [wp_extend (n := st.length) (m := s2.length) (xs := ys.map pairD) (ys := ks.map pairD) c3 (by simp) (by rw [List.length_map, List.length_map]; exact Nat.le_trans (m := 1000000) (by omega) (by decide))]
      refine ⟨szAll (ys ++ ks), by rw [szAll_app]; omega, ys ++ ks, rfl, by rw [szAll_app]; omega, fun k hk' => ?_, by simp; omega, ?_, ?_⟩
      · rcases List.mem_append.mp hk' with hk' | hk'
        · exact py k hk'
        · exact hk k hk'
      · rw [List.take_set_of_le (Nat.le_refl _), List.take_append_of_le_length (by omega), ht2]
      · rw [List.getElem?_set_self (by simp; omega)]; simp
    cases z with
    | none =>
      simp [pairD, subTy]
      exact done
    | bool b =>
      simp [pairD, subTy, c_law_same, s_law_is_truth]
      exact done
    | int i => 
      simp [pairD, subTy]
      exact done
    | str t => 
      simp [pairD, subTy, sh]
      exact done
    | dict kvs => have := pz.1; simp [PyData.canLay0] at this
    | list ks => 
      simp [pairD, subTy, in_alike]
      exact kids ks _ _ _ (by simp [szD]) pz.list.kids
    | tuple ks => 
      simp [pairD, subTy, in_alike]
      exact kids ks _ _ _ (by simp [szD]) pz.kids
end EV.Sp
end

section
set_option autoImplicit false
set_option linter.all false
set_option maxRecDepth 100000
/-! SpK: talks. -/
namespace EV.Sp
open PySem
/-- drawn_rows(table): 0 table 1 row -/
def b_drawn_rows : Ss :=
 (.cons (.ret (.b1 .tuple 0 (.lc1 0 (.var 1) (.nm 1) (.val (.call 0 (.cons (.idx (.var 0) (.con (.int 1))) .nil))) (.cons (.cmp .NotEq (.idx (.idx (.var 0) (.con (.int 2))) (.var 1)) (.glb 0)) .nil) [1])))
 .nil)
noncomputable def c_drawn_rows : Ctx := ⟨[("rows_of", f_rows_of)], [("ZERO", (.tuple [(.int 0), (.int 1)]))]⟩
noncomputable def f_drawn_rows : Fn := den c_drawn_rows 1 2 false b_drawn_rows
/-- likely_at(table, event, still, place, level): 0 table 1 event 2 still 3 place 4 level 5 own 6 row -/
def b_likely_at : Ss :=
 (.cons (.asg (.nm 5) (.lc1 0 (.var 6) (.nm 6) (.val (.var 2)) (.cons (.cmp .Eq (.idx (.var 6) (.var 3)) (.var 4)) .nil) [6]))
 (.cons (.ret (.call 0 (.cons (.call 1 (.cons (.idx (.var 0) (.con (.int 2))) (.cons (.lc1 0 (.var 6) (.nm 6) (.val (.var 5)) (.cons (.cmp .In (.var 6) (.var 1)) .nil) [6]) .nil))) (.cons (.call 1 (.cons (.idx (.var 0) (.con (.int 2))) (.cons (.var 5) .nil))) .nil))))
 .nil))
noncomputable def c_likely_at : Ctx := ⟨[("over", f_over), ("part_of", f_part_of)], []⟩
noncomputable def f_likely_at : Fn := den c_likely_at 5 7 false b_likely_at
/-- told_once(table, event, still, place, level): 0 table 1 event 2 still 3 place 4 level 5 levels 6 numbers 7 own 8 row -/
def b_told_once : Ss :=
 (.cons (.asg (.nm 5) (.b1 .sortset 0 (.lc1 0 (.idx (.var 8) (.var 3)) (.nm 8) (.val (.var 2)) .nil [8])))
 (.cons (.asg (.nm 6) (.dc1 0 (.var 7) (.call 0 (.cons (.var 0) (.cons (.var 1) (.cons (.var 2) (.cons (.var 3) (.cons (.var 7) .nil)))))) (.nm 7) (.val (.var 5)) .nil [7]))
 (.cons (.ret (.tup (.cons (.idx (.var 6) (.var 4)) (.cons (.b1 .tuple 0 (.lc1 0 (.var 8) (.nm 8) (.val (.var 2)) (.cons (.cmp .Eq (.idx (.var 6) (.idx (.var 8) (.var 3))) (.idx (.var 6) (.var 4))) .nil) [8])) .nil))))
 .nil)))
noncomputable def c_told_once : Ctx := ⟨[("likely_at", f_likely_at)], []⟩
noncomputable def f_told_once : Fn := den c_told_once 5 9 false b_told_once
/-! ### sets of ints -/
theorem mem_insU {x y : Int} {l : List Int} : y ∈ insU x l ↔ y = x ∨ y ∈ l := by
  induction l with
  | nil => simp [insU]
  | cons z l ih =>
    unfold insU
    split
    · simp
    · split
      · rename_i h; subst h; simp
      · simp only [List.mem_cons, ih]
        constructor
        · rintro (h | h | h)
          · exact .inr (.inl h)
          · exact .inl h
          · exact .inr (.inr h)
        · rintro (h | h | h)
          · exact .inr (.inl h)
          · exact .inl h
          · exact .inr (.inr h)
theorem mem_usort {y : Int} {l : List Int} : y ∈ usort l ↔ y ∈ l := by
  induction l with
  | nil => simp [usort]
  | cons x l ih => simp only [usort, List.foldr_cons] at ih ⊢; rw [mem_insU, ih, List.mem_cons]
theorem insU_sorted {x : Int} {l : List Int} (h : l.Pairwise (· < ·)) : (insU x l).Pairwise (· < ·) := by
  induction l with
  | nil => simp [insU]
  | cons z l ih =>
    obtain ⟨h1, h2⟩ := List.pairwise_cons.mp h
    unfold insU
    split
    · rename_i hx
      refine List.pairwise_cons.mpr ⟨fun a ha => ?_, h⟩
      rcases List.mem_cons.mp ha with rfl | ha
      · exact hx
      · have := h1 a ha; omega
    · split
      · exact h
      · refine List.pairwise_cons.mpr ⟨fun a ha => ?_, ih h2⟩
        rcases mem_insU.mp ha with rfl | ha
        · omega
        · exact h1 a ha
theorem usort_sorted (l : List Int) : (usort l).Pairwise (· < ·) := by
  induction l with
  | nil => simp [usort]
  | cons x l ih => exact insU_sorted ih
theorem usort_nodup (l : List Int) : (usort l).Nodup := (usort_sorted l).imp fun {a b} h e => by omega
/-! ### dicts over ints -/
section
variable {ev : Int → Dt}
theorem keyFor_int (ls : List Int) (l : Int) : keyFor (ls.map fun l => (.int l, ev l)) (.int l) = true := by
  cases ls with
  | nil => rfl
  | cons x ls => simp [keyFor, flatKey]
theorem idx_ints {ls : List Int} {l : Int} (h : l ∈ ls) : idxD (.dict (ls.map fun l => (.int l, ev l))) (.int l) = some (ev l) := by
  rw [idx_dict, keyFor_int, if_pos rfl, dget_map (ek := fun l : Int => .int l) (ev := ev) eqv_int h]
theorem putAll_ints {ls : List Int} (h : ls.Nodup) : putAll (ls.map fun l => (.int l, ev l)) = ls.map fun l => (.int l, ev l) := by
  have key : ∀ (ls pre : List Int), (pre ++ ls).Nodup → (ls.map fun l => (PyData.int l, ev l)).foldl (fun d p => dput d p.1 p.2) (pre.map fun l => (.int l, ev l)) = (pre ++ ls).map fun l => (.int l, ev l) := by
    intro ls
    induction ls with
    | nil => intro pre _; simp
    | cons x ls ih =>
      intro pre hn
      have hx : x ∉ pre := fun z => by
        have := List.nodup_append.mp hn
        exact this.2.2 x z x (by simp) rfl
      simp only [List.map_cons, List.foldl_cons]
      have e : dput (pre.map fun l => (PyData.int l, ev l)) (.int x) (ev x) = (pre ++ [x]).map fun l => (.int l, ev l) := by
        unfold dput
        rw [dhas_map (ek := fun l : Int => .int l) (ev := ev) eqv_int]
        simp [hx]
      rw [e, ih (pre ++ [x]) (by simpa using hn)]
      simp
  exact key ls [] h
end
/-! ### what is told -/
def lv (place : Nat) (r : Row) : Nat := r.getD place 0
/-- the open rows with a level -/
def own (still : Row → Bool) (place l : Nat) : Row → Bool := fun r => decide (lv place r = l) && still r
/-- how likely the event is for whom sees a level -/
def qt (sizes : List Nat) (p : Row → Rat) (ev still : Row → Bool) (place l : Nat) : Rat :=
  pr sizes p (fun r => ev r && own still place l r) / pr sizes p (own still place l)
theorem idx_lv {sizes : List Nat} {r : Row} {place : Nat} (hr : r ∈ rows sizes) (hp : place < sizes.length) : idxD (Nt r) (.int (place : Nat)) = some (.int (lv place r : Nat)) := by
  have : place < r.length := by rw [inR_len (mem_rows.mp hr)]; exact hp
  rw [idx_Nt this]; simp [lv, List.getD_eq_getElem?_getD, this]
/-- the rows that may come -/
def pos (p : Row → Rat) : Row → Bool := fun r => decide (p r ≠ 0)
theorem ne_zero (q : Rat) : cmpD .NotEq (R q) (R 0) = some (decide (q ≠ 0)) := by
  rw [cmp_ne, eqD_ok (shaped_R _) (shaped_R _), eqv_R]; simp
theorem s_drawn_rows {sizes : List Nat} {p : Row → Rat} (h : SzOk sizes) : f_drawn_rows [.d (Tb sizes p)] = ret (.d (Ev sizes (pos p))) := by
  refine den_ret rfl rfl (ρ' := [some (.d (Tb sizes p)), none]) ?_
  have h1 : comp [] (turn1 c_drawn_rows (.nm 1) [1] (.cons (.cmp .NotEq (.idx (.idx (.var 0) (.con (.int 2))) (.var 1)) (.glb 0)) .nil) (.var 1) [some (.d (Tb sizes p)), none]) ((rows sizes).map fun r => .d (Nt r)) = ret (((rows sizes).filter (pos p)).map Nt) := by
    refine lc_filter (pos p) Nt fun r hr => ?_
    simp [c_drawn_rows, idx_Dp hr, R0, pos]
  simp only [c_drawn_rows, R0] at h1
  simp [b_drawn_rows, c_drawn_rows, s_rows_of h, Function.comp_def, R0, h1, Ev]
theorem s_likely_at {sizes : List Nat} {p : Row → Rat} {ev still : Row → Bool} {place l : Nat} (h : TbOk sizes p) (hp : place < sizes.length) (h0 : pr sizes p (own still place l) ≠ 0) :
    f_likely_at [.d (Tb sizes p), .d (Ev sizes ev), .d (Ev sizes still), .d (.int place), .d (.int l)] = ret (.d (R (qt sizes p ev still place l))) := by
  refine den_ret rfl rfl (ρ' := [some (.d (Tb sizes p)), some (.d (Ev sizes ev)), some (.d (Ev sizes still)), some (.d (.int place)), some (.d (.int l)), some (.d (.list (((rows sizes).filter (own still place l)).map Nt))), none]) ?_
  have h1 : comp [] (turn1 c_likely_at (.nm 6) [6] (.cons (.cmp .Eq (.idx (.var 6) (.var 3)) (.var 4)) .nil) (.var 6) [some (.d (Tb sizes p)), some (.d (Ev sizes ev)), some (.d (Ev sizes still)), some (.d (.int place)), some (.d (.int l)), none, none]) (((rows sizes).filter still).map fun r => .d (Nt r)) = ret (((rows sizes).filter (own still place l)).map Nt) := by
    rw [lc_filter (xs := (rows sizes).filter still) (fun r => decide (lv place r = l)) Nt fun r hr => ?_, List.filter_filter]
    · rfl
    · simp [c_likely_at, idx_lv (mf hr) hp, Int.natCast_inj]
  have h2 : comp [] (turn1 c_likely_at (.nm 6) [6] (.cons (.cmp .In (.var 6) (.var 1)) .nil) (.var 6) [some (.d (Tb sizes p)), some (.d (Ev sizes ev)), some (.d (Ev sizes still)), some (.d (.int place)), some (.d (.int l)), some (.d (.list (((rows sizes).filter (own still place l)).map Nt))), none]) (((rows sizes).filter (own still place l)).map fun r => .d (Nt r)) = ret (((rows sizes).filter fun r => ev r && own still place l r).map Nt) := by
    rw [lc_filter (xs := (rows sizes).filter (own still place l)) ev Nt fun r hr => ?_, List.filter_filter]
    simp [c_likely_at, in_Ev (mf hr)]
  simp only [c_likely_at] at h1 h2
  simp [b_likely_at, c_likely_at, Function.comp_def, h1, h2, s_part_list h, s_over (h.sm_pr _) (h.sm_pr _) h0, qt]
/-- the open rows that are left -/
def nx (sizes : List Nat) (p : Row → Rat) (ev still : Row → Bool) (place l : Nat) : Row → Bool := fun r => decide (qt sizes p ev still place (lv place r) = qt sizes p ev still place l) && still r
theorem sum_pos {xs : List Rat} (h : ∀ x ∈ xs, 0 ≤ x) {x : Rat} (hx : x ∈ xs) (h0 : x ≠ 0) : xs.sum ≠ 0 := by
  have h1 := le_sum h hx
  have h2 := h x hx
  intro e
  rw [e] at h1
  exact h0 (Rat.le_antisymm h1 h2)
theorem pr_pos {sizes : List Nat} {p : Row → Rat} (h : TbOk sizes p) {c : Row → Bool} {r : Row} (hr : r ∈ rows sizes) (hc : c r = true) (h0 : p r ≠ 0) : pr sizes p c ≠ 0 := by
  refine sum_pos (fun x hx => ?_) (x := p r) (List.mem_map_of_mem (List.mem_filter.mpr ⟨hr, hc⟩)) h0
  obtain ⟨r', hr', rfl⟩ := List.mem_map.mp hx
  exact h.nonneg (mf hr')
theorem s_told_once {sizes : List Nat} {p : Row → Rat} {ev still : Row → Bool} {place : Nat} {row : Row} (h : TbOk sizes p) (hp : place < sizes.length) (hs : ∀ r ∈ rows sizes, still r = true → p r ≠ 0) (hr : row ∈ rows sizes) (hrs : still row = true) :
    f_told_once [.d (Tb sizes p), .d (Ev sizes ev), .d (Ev sizes still), .d (.int place), .d (.int (lv place row : Nat))] = ret (.d (.tuple [R (qt sizes p ev still place (lv place row)), Ev sizes (nx sizes p ev still place (lv place row))])) := by
  let ls : List Int := usort (((rows sizes).filter still).map fun r => (lv place r : Int))
  have hls : ∀ l : Int, l ∈ ls → ∃ r ∈ rows sizes, still r = true ∧ l = (lv place r : Nat) := fun l hl => by
    obtain ⟨r, hr, rfl⟩ := List.mem_map.mp (mem_usort.mp hl)
    exact ⟨r, mf hr, (List.mem_filter.mp hr).2, rfl⟩
  have mls : ∀ r ∈ rows sizes, still r = true → ((lv place r : Nat) : Int) ∈ ls := fun r hr hs => mem_usort.mpr (List.mem_map_of_mem (List.mem_filter.mpr ⟨hr, hs⟩))
  let num : Dt := .dict (ls.map fun l => (.int l, R (qt sizes p ev still place l.toNat)))
  have hl64 : ((rows sizes).filter still).length < 64 := Nat.lt_of_le_of_lt (List.length_filter_le _ _) (by rw [len_rows]; have := h.sz.2.2.2; omega)
  refine den_ret (ρ0 := [some (.d (Tb sizes p)), some (.d (Ev sizes ev)), some (.d (Ev sizes still)), some (.d (.int place)), some (.d (.int (lv place row : Nat))), none, none, none, none]) rfl rfl (ρ' := [some (.d (Tb sizes p)), some (.d (Ev sizes ev)), some (.d (Ev sizes still)), some (.d (.int place)), some (.d (.int (lv place row : Nat))), some (.d (.list (ls.map .int))), some (.d num), none, none]) ?_
  have h1 : comp [] (turn1 c_told_once (.nm 8) [8] .nil (.idx (.var 8) (.var 3)) [some (.d (Tb sizes p)), some (.d (Ev sizes ev)), some (.d (Ev sizes still)), some (.d (.int place)), some (.d (.int (lv place row : Nat))), none, none, none, none]) (((rows sizes).filter still).map fun r => .d (Nt r)) = ret (((rows sizes).filter still).map fun r => .int (lv place r : Nat)) := by
    refine lc_map _ fun r hr => ?_
    simp [idx_lv (mf hr) hp]
  have h2 : comp [] (turnd c_told_once (.nm 7) [7] .nil (.var 7) (.call 0 (.cons (.var 0) (.cons (.var 1) (.cons (.var 2) (.cons (.var 3) (.cons (.var 7) .nil)))))) [some (.d (Tb sizes p)), some (.d (Ev sizes ev)), some (.d (Ev sizes still)), some (.d (.int place)), some (.d (.int (lv place row : Nat))), some (.d (.list (ls.map .int))), none, none, none]) (ls.map fun l => .d (.int l)) = ret (ls.map fun l => (.int l, R (qt sizes p ev still place l.toNat))) := by
    refine lc_map (α := Dt × Dt) _ fun l hl => ?_
    obtain ⟨r, hr, hs', rfl⟩ := hls l hl
    have h0 : pr sizes p (own still place (lv place r)) ≠ 0 := pr_pos h hr (by simp [own, hs']) (hs r hr hs')
    simp [c_told_once, s_likely_at h hp h0, flatKey]
  have h3 : comp [] (turn1 c_told_once (.nm 8) [8] (.cons (.cmp .Eq (.idx (.var 6) (.idx (.var 8) (.var 3))) (.idx (.var 6) (.var 4))) .nil) (.var 8) [some (.d (Tb sizes p)), some (.d (Ev sizes ev)), some (.d (Ev sizes still)), some (.d (.int place)), some (.d (.int (lv place row : Nat))), some (.d (.list (ls.map .int))), some (.d num), none, none]) (((rows sizes).filter still).map fun r => .d (Nt r)) = ret (((rows sizes).filter (nx sizes p ev still place (lv place row))).map Nt) := by
    rw [lc_filter (xs := (rows sizes).filter still) (fun r => decide (qt sizes p ev still place (lv place r) = qt sizes p ev still place (lv place row))) Nt fun r hr' => ?_, List.filter_filter]
    · rfl
    · have m1 := mls r (mf hr') (List.mem_filter.mp hr').2
      have m2 := mls row hr hrs
      have i1 : idxD num (.int (lv place r : Nat)) = some (R (qt sizes p ev still place (lv place r))) := idx_ints (ev := fun l => R (qt sizes p ev still place l.toNat)) m1
      have i2 : idxD num (.int (lv place row : Nat)) = some (R (qt sizes p ev still place (lv place row))) := idx_ints (ev := fun l => R (qt sizes p ev still place l.toNat)) m2
      simp [idx_lv (mf hr') hp, i1, i2]
  have i2 : idxD num (.int (lv place row : Nat)) = some (R (qt sizes p ev still place (lv place row))) := idx_ints (ev := fun l => R (qt sizes p ev still place l.toNat)) (mls row hr hrs)
  have e1 : b1D .sortset (.list (((rows sizes).filter still).map fun r => .int (lv place r : Nat))) = some (.list (ls.map .int)) := by
    rw [sortset_list, intsOf_map, Option.bind_some, if_pos (by rw [List.length_map]; exact decide_eq_true hl64)]
  have e2 : PyData.dict (putAll (ls.map fun l => (.int l, R (qt sizes p ev still place l.toNat)))) = num := by
    rw [putAll_ints (ev := fun l => R (qt sizes p ev still place l.toNat)) (usort_nodup _)]
  simp only [c_told_once] at h1 h2 h3
  have e3 : List.map Val.d (ls.map .int) = ls.map fun l => Val.d (.int l) := by rw [List.map_map]; rfl
  simp only [b_told_once, c_told_once, exs_cons, exs_nil, ex_asg, ex_ret, ev_b1, ev_lc1, ev_dc1, ev_tup, ev_idx, ev_var, evs_cons, evs_nil, evi_val, lookEnv_s, lookEnv_z, bnd_ret, bnd_bnd, itemsV_d, items_Ev, opt_some, List.map_map, Function.comp_def, h1, fresh_z, dat_d, e1, bind1_nm, List.set_cons_succ, List.set_cons_zero, andThen_nx, items_list]
  rw [h2]
  simp only [bnd_ret, fresh_z, e2, bind1_nm, List.set_cons_succ, List.set_cons_zero, andThen_nx, exs_cons, ex_ret, ev_b1, ev_lc1, ev_tup, ev_idx, ev_var, evs_cons, evs_nil, evi_val, lookEnv_s, lookEnv_z, bnd_bnd, itemsV_d, items_Ev, opt_some, List.map_map, Function.comp_def, idxV_d, i2, h3, dat_d, tuple_list, datas_cons, datas_nil, Option.map_some, andThen_ret]
  rfl
end EV.Sp
end

section
set_option autoImplicit false
set_option linter.all false
set_option maxRecDepth 100000
/-! SpM: talks led to their end. -/
namespace EV.Sp
open PySem
/-- talked(table, speakers, event, row): 0 table 1 speakers 2 event 3 row 4 still 5 told 6 calm 7 place 8 number 9 later -/
def b_talked : Ss :=
 (.cons (.par [4, 5, 6] (.cons (.call 1 (.cons (.var 0) .nil)) (.cons (.lst 1 .nil) (.cons (.con (.int 0)) .nil))))
 (.cons (.whl (.cmp .Lt (.var 6) (.b1 .len 0 (.var 1)))
 (.cons (.asg (.nm 7) (.idx (.var 1) (.bin .Mod (.b1 .len 0 (.var 5)) (.b1 .len 0 (.var 1)))))
 (.cons (.asg (.tp [8, 9]) (.call 0 (.cons (.var 0) (.cons (.var 2) (.cons (.var 4) (.cons (.var 7) (.cons (.idx (.var 3) (.var 7)) .nil)))))))
 (.cons (.asg (.nm 6) (.ife (.cmp .Eq (.var 9) (.var 4)) (.bin .Add (.var 6) (.con (.int 1))) (.con (.int 0))))
 (.cons (.asg (.nm 4) (.var 9))
 (.cons (.exp (.mt .append (.var 5) (.cons (.var 8) .nil)))
 .nil))))))
 (.cons (.ret (.tup (.cons (.b1 .tuple 0 (.var 5)) (.cons (.var 4) .nil))))
 .nil)))
noncomputable def c_talked : Ctx := ⟨[("told_once", f_told_once), ("drawn_rows", f_drawn_rows)], []⟩
noncomputable def f_talked : Fn := den c_talked 4 10 false b_talked
/-- are_speakers(sizes, value): 0 sizes 1 value 2 place -/
def b_are_speakers : Ss :=
 (.cons (.ife (.or (.cons (.not (.isi (.var 1) [.tuple])) (.cons (.cmp .Eq (.var 1) (.tup .nil)) (.cons (.not (.b1 .all 0 (.lc1 0 (.call 0 (.cons (.var 2) .nil)) (.nm 2) (.val (.var 1)) .nil [2]))) .nil))))
 (.cons (.ret (.con (.bool false)))
 .nil)
 .nil)
 (.cons (.ret (.and (.cons (.b1 .all 0 (.lc1 0 (.chn .LtE .Lt (.con (.int 0)) (.var 2) (.b1 .len 0 (.var 0))) (.nm 2) (.val (.var 1)) .nil [2])) (.cons (.cmp .Eq (.b1 .lenset 0 (.var 1)) (.b1 .len 0 (.var 1))) .nil))))
 .nil))
noncomputable def c_are_speakers : Ctx := ⟨[("is_whole", f_is_whole)], []⟩
noncomputable def f_are_speakers : Fn := den c_are_speakers 2 3 false b_are_speakers
/-- need_talk(table, speakers, event): 0 table 1 speakers 2 event -/
def b_need_talk : Ss :=
 (.cons (.exp (.call 2 (.cons (.var 0) .nil)))
 (.cons (.ife (.not (.call 1 (.cons (.idx (.var 0) (.con (.int 1))) (.cons (.var 1) .nil))))
 (.cons .nev
 .nil)
 .nil)
 (.cons (.exp (.call 0 (.cons (.idx (.var 0) (.con (.int 1))) (.cons (.var 2) .nil))))
 .nil)))
noncomputable def c_need_talk : Ctx := ⟨[("need_event", f_need_event), ("are_speakers", f_are_speakers), ("need_table", f_need_table)], []⟩
noncomputable def f_need_talk : Fn := den c_need_talk 3 3 false b_need_talk
/-- need_drawn(table, row): 0 table 1 row -/
def b_need_drawn : Ss :=
 (.cons (.ife (.not (.call 0 (.cons (.idx (.var 0) (.con (.int 1))) (.cons (.var 1) .nil))))
 (.cons .nev
 .nil)
 .nil)
 (.cons (.ife (.cmp .Eq (.idx (.idx (.var 0) (.con (.int 2))) (.var 1)) (.glb 0))
 (.cons .nev
 .nil)
 .nil)
 .nil))
noncomputable def c_need_drawn : Ctx := ⟨[("is_row", f_is_row)], [("ZERO", (.tuple [(.int 0), (.int 1)]))]⟩
noncomputable def f_need_drawn : Fn := den c_need_drawn 2 2 false b_need_drawn
/-- talk(table, speakers, event, row): 0 table 1 speakers 2 event 3 row -/
def b_talk : Ss :=
 (.cons (.exp (.call 2 (.cons (.var 0) (.cons (.var 1) (.cons (.var 2) .nil)))))
 (.cons (.exp (.call 1 (.cons (.var 0) (.cons (.var 3) .nil))))
 (.cons (.ret (.idx (.call 0 (.cons (.var 0) (.cons (.var 1) (.cons (.var 2) (.cons (.var 3) .nil))))) (.con (.int 0))))
 .nil)))
noncomputable def c_talk : Ctx := ⟨[("talked", f_talked), ("need_drawn", f_need_drawn), ("need_talk", f_need_talk)], []⟩
noncomputable def f_talk : Fn := den c_talk 4 4 false b_talk
/-- left_open(table, speakers, event, row): 0 table 1 speakers 2 event 3 row -/
def b_left_open : Ss :=
 (.cons (.exp (.call 2 (.cons (.var 0) (.cons (.var 1) (.cons (.var 2) .nil)))))
 (.cons (.exp (.call 1 (.cons (.var 0) (.cons (.var 3) .nil))))
 (.cons (.ret (.idx (.call 0 (.cons (.var 0) (.cons (.var 1) (.cons (.var 2) (.cons (.var 3) .nil))))) (.con (.int 1))))
 .nil)))
noncomputable def c_left_open : Ctx := ⟨[("talked", f_talked), ("need_drawn", f_need_drawn), ("need_talk", f_need_talk)], []⟩
noncomputable def f_left_open : Fn := den c_left_open 4 4 false b_left_open
structure TS where
  still : Row → Bool
  told : List Rat
  calm : Nat
def plc (sp : List Nat) (ts : TS) : Nat := sp.getD (ts.told.length % sp.length) 0
def stp (sizes : List Nat) (p : Row → Rat) (ev : Row → Bool) (sp : List Nat) (row : Row) (ts : TS) : TS where
  still := nx sizes p ev ts.still (plc sp ts) (lv (plc sp ts) row)
  told := ts.told ++ [qt sizes p ev ts.still (plc sp ts) (lv (plc sp ts) row)]
  calm := if (rows sizes).filter (nx sizes p ev ts.still (plc sp ts) (lv (plc sp ts) row)) = (rows sizes).filter ts.still then ts.calm + 1 else 0
def runF (sizes : List Nat) (p : Row → Rat) (ev : Row → Bool) (sp : List Nat) (row : Row) : Nat → TS → TS
  | 0, ts => ts
  | f + 1, ts => if ts.calm < sp.length then runF sizes p ev sp row f (stp sizes p ev sp row ts) else ts
def ini (p : Row → Rat) : TS := ⟨pos p, [], 0⟩
def fin (sizes : List Nat) (p : Row → Rat) (ev : Row → Bool) (sp : List Nat) (row : Row) : TS := runF sizes p ev sp row 1000 (ini p)
/-- what is left to be told at most -/
def mu (sizes : List Nat) (sp : List Nat) (ts : TS) : Nat := ((rows sizes).filter ts.still).length * (sp.length + 1) + (sp.length - ts.calm)
theorem sub_len {α : Type} {a b : List α} (h : a.Sublist b) (n : a ≠ b) : a.length < b.length := by
  rcases Nat.lt_or_eq_of_le h.length_le with l | l
  · exact l
  · exact absurd (h.eq_of_length l) n
theorem nx_sub (sizes : List Nat) (p : Row → Rat) (ev still : Row → Bool) (place l : Nat) : ((rows sizes).filter (nx sizes p ev still place l)).Sublist ((rows sizes).filter still) := by
  have : (rows sizes).filter (nx sizes p ev still place l) = ((rows sizes).filter still).filter fun r => decide (qt sizes p ev still place (lv place r) = qt sizes p ev still place l) := by rw [List.filter_filter]; rfl
  rw [this]; exact List.filter_sublist
theorem mu_lt {sizes : List Nat} {p : Row → Rat} {ev : Row → Bool} {sp : List Nat} {row : Row} {ts : TS} (h : ts.calm < sp.length) : mu sizes sp (stp sizes p ev sp row ts) < mu sizes sp ts := by
  unfold mu stp
  dsimp only
  split
  · rename_i e; rw [e]; omega
  · rename_i e
    have := sub_len (nx_sub sizes p ev ts.still (plc sp ts) (lv (plc sp ts) row)) e
    have h2 := Nat.mul_le_mul_right (sp.length + 1) (Nat.succ_le_of_lt this)
    rw [Nat.succ_mul] at h2
    omega
theorem run_end {sizes : List Nat} {p : Row → Rat} {ev : Row → Bool} {sp : List Nat} {row : Row} {f : Nat} {ts : TS} (h : ¬ts.calm < sp.length) : runF sizes p ev sp row f ts = ts := by
  cases f with
  | zero => rfl
  | succ f => unfold runF; rw [if_neg h]
@[simp] theorem eqv_Ev (sizes : List Nat) (a b : Row → Bool) : PyData.eqv (Ev sizes a) (Ev sizes b) = decide ((rows sizes).filter a = (rows sizes).filter b) := by
  have key : ∀ l m : List Row, PyData.eqvAll (l.map Nt) (m.map Nt) = decide (l = m) := by
    intro l
    induction l with
    | nil => intro m; cases m <;> simp
    | cons x l ih => intro m; cases m with
      | nil => simp
      | cons y m =>
        simp only [List.map_cons, eqvAll_cc, ih, eqv_Nt]
        by_cases h : x = y <;> by_cases h' : l = m <;> simp [h, h']
  unfold Ev; rw [eqv_tuple, key]
theorem mod_nat (a b : Nat) : ((a : Nat) : Int).fmod (b : Nat) = ((a % b : Nat) : Int) := by rw [Int.fmod_eq_emod_of_nonneg _ (by omega)]; simp
/-- speakers -/
def SpOk (sizes sp : List Nat) : Prop := sp ≠ [] ∧ (∀ s ∈ sp, s < sizes.length) ∧ sp.Nodup ∧ sp.length ≤ 4
theorem plc_lt {sizes sp : List Nat} (h : SpOk sizes sp) (ts : TS) : plc sp ts ∈ sp ∧ plc sp ts < sizes.length := by
  have h0 : 0 < sp.length := List.length_pos_iff.mpr h.1
  have hm : ts.told.length % sp.length < sp.length := Nat.mod_lt _ h0
  have : plc sp ts = sp[ts.told.length % sp.length] := by unfold plc; simp [List.getD_eq_getElem?_getD, hm]
  rw [this]
  exact ⟨List.getElem_mem hm, h.2.1 _ (List.getElem_mem hm)⟩
theorem s_talked {sizes sp : List Nat} {p : Row → Rat} {ev : Row → Bool} {row : Row} (h : TbOk sizes p) (hsp : SpOk sizes sp) (hr : row ∈ rows sizes) (h0 : p row ≠ 0) :
    f_talked [.d (Tb sizes p), .d (Nt sp), .d (Ev sizes ev), .d (Nt row)] = ret (.d (.tuple [Rt (fin sizes p ev sp row).told, Ev sizes (fin sizes p ev sp row).still])) := by
  have k0 : 0 < sp.length := List.length_pos_iff.mpr hsp.1
  refine den_ev (ρ0 := [some (.d (Tb sizes p)), some (.d (Nt sp)), some (.d (Ev sizes ev)), some (.d (Nt row)), none, none, none, none, none, none]) rfl rfl fun st => ?_
  simp [-andThen_nx, b_talked, c_talked, s_drawn_rows h.sz]
  rw [andThen_nx]
  simp only [exs_cons, ex_whl, wp_bnd]
  refine wp_whl (fun m ρ s => ∃ ts f w7 w8 w9, m = mu sizes sp ts ∧ m ≤ f ∧ ts.told.length + m ≤ 1000 ∧ runF sizes p ev sp row f ts = fin sizes p ev sp row ∧ (∀ r ∈ rows sizes, ts.still r = true → p r ≠ 0) ∧ ts.still row = true ∧ s = st ++ [.lst (ts.told.map R)] ∧
      ρ = [some (.d (Tb sizes p)), some (.d (Nt sp)), some (.d (Ev sizes ev)), some (.d (Nt row)), some (.d (Ev sizes ts.still)), some (.ref st.length), some (.d (.int ts.calm)), w7, w8, w9])
    ⟨ini p, 1000, none, none, none, rfl, ?_, ?_, rfl, ?_, ?_, rfl, rfl⟩ ?_
  · have a1 : ((rows sizes).filter (pos p)).length ≤ 36 := Nat.le_trans (List.length_filter_le _ _) (by rw [len_rows]; exact h.sz.2.2.2)
    have a2 := hsp.2.2.2
    have := Nat.mul_le_mul a1 (Nat.add_le_add_right a2 1)
    show ((rows sizes).filter (pos p)).length * (sp.length + 1) + (sp.length - 0) ≤ 1000
    omega
  · have a1 : ((rows sizes).filter (pos p)).length ≤ 36 := Nat.le_trans (List.length_filter_le _ _) (by rw [len_rows]; exact h.sz.2.2.2)
    have a2 := hsp.2.2.2
    have := Nat.mul_le_mul a1 (Nat.add_le_add_right a2 1)
    show 0 + (((rows sizes).filter (pos p)).length * (sp.length + 1) + (sp.length - 0)) ≤ 1000
    omega
  · intro r _ hp; simpa [ini, pos] using hp
  · simpa [ini, pos] using h0
  · rintro _ _ _ ⟨ts, f, w7, w8, w9, rfl, hm, htl, hf, hpos, hst, rfl, rfl⟩
    have c1 : (st ++ [Cell.lst (ts.told.map R)])[st.length]? = some (.lst (ts.told.map R)) := by simp
    simp only [wtest_app, ev_cmp, ev_var, ev_b1, lookEnv_s, lookEnv_z, bnd_ret, dat_d, len_Nt, opt_some, fresh_z, cmpV_d, cmp_lt, lt_int, asBool_b, wp_ret]
    by_cases hc : ts.calm < sp.length
    · have hc' : (ts.calm : Int) < sp.length := by omega
      simp only [hc', decide_true, if_true]
      obtain ⟨pm, pl⟩ := plc_lt hsp ts
      have lt1 := mu_lt (sizes := sizes) (p := p) (ev := ev) (row := row) hc
      have hidx : idxD (Nt sp) (.int ((ts.told.length % sp.length : Nat) : Int)) = some (.int (plc sp ts : Nat)) := by
        have hmod : ts.told.length % sp.length < sp.length := Nat.mod_lt _ k0
        rw [idx_Nt hmod]; simp [plc, List.getD_eq_getElem?_getD, hmod]
      have kz : ¬((sp.length : Int) = 0) := by omega
      simp only [exs_cons, ex_asg, ev_idx, ev_var, ev_bin, ev_b1, lookEnv_s, lookEnv_z, bnd_ret, wp_bnd, wp_ret]
      rw [wp_dat_lst c1]
      simp only [len_list, List.length_map, opt_some, wp_ret, fresh_z, dat2_d, dat_d, len_Nt, bnd_ret, mod_int, kz, if_false, mod_nat, wp_opt_some, idxV_d, hidx, bind1_nm, List.set_cons_succ, List.set_cons_zero, andThen_nx, exs_cons, ex_asg, ev_call, evs_cons, evs_nil, ev_var, ev_idx, lookEnv_s, lookEnv_z, wp_bnd, idx_lv hr pl, c_talked, List.getElem?_cons_zero, s_told_once h pl hpos hr hst, bind1_tp, List.length_cons, List.length_nil, if_true, setD_cons, setD_nil, exs_nil]
      simp only [ev_ife, ev_cmp, ev_var, lookEnv_s, lookEnv_z, bnd_ret, cmpV_d, cmp_eq, eqD_ok (shaped_Ev _ _) (shaped_Ev _ _), eqv_Ev, opt_some, asBool_b, ev_bin, ev_con, conD_int, dat2_d, add_int, decide_eq_true_eq]
      have ecalm : (if (rows sizes).filter (nx sizes p ev ts.still (plc sp ts) (lv (plc sp ts) row)) = (rows sizes).filter ts.still then ret (Val.d (.int ((ts.calm : Int) + 1))) else ret (Val.d (.int 0))) = ret (Val.d (.int ((stp sizes p ev sp row ts).calm : Nat))) := by
        simp only [stp]
        by_cases e : (rows sizes).filter (nx sizes p ev ts.still (plc sp ts) (lv (plc sp ts) row)) = (rows sizes).filter ts.still
        · simp only [e, if_true]; rfl
        · simp only [e, if_false]; rfl
      rw [ecalm]
      simp only [wp_ret, bind1_nm, List.set_cons_succ, List.set_cons_zero, andThen_nx, exs_cons, ex_asg, ex_exp, exs_nil, ev_var, lookEnv_s, lookEnv_z, bnd_ret, ev_mt, evs_cons, evs_nil, wp_bnd, wp_mtK c1]
      rw [wp_append c1 (by rw [List.length_map]; exact Nat.lt_of_le_of_lt (m := 1000) (by omega) (by decide))]
      refine ⟨_, lt1, stp sizes p ev sp row ts, f - 1, _, _, _, rfl, by omega, ?_, ?_, ?_, ?_, ?_, rfl⟩
      · have : (stp sizes p ev sp row ts).told.length = ts.told.length + 1 := by simp [stp]
        omega
      · rw [← hf]
        have : f = (f - 1) + 1 := by omega
        conv => rhs; rw [this]
        simp only [runF]
        rw [if_pos hc]
      · intro r hr' hs'
        refine hpos r hr' ?_
        simp [stp, nx] at hs'
        exact hs'.2
      · simp [stp, nx, hst]
      · simp [stp]
    · have hc' : ¬((ts.calm : Int) < sp.length) := by omega
      have e : ts = fin sizes p ev sp row := by rw [← hf, run_end hc]
      subst e
      simp only [hc', decide_false, Bool.false_eq_true, if_false, andThen_nx, exs_cons, ex_ret, ev_tup, evs_cons, evs_nil, ev_b1, ev_var, lookEnv_s, lookEnv_z, bnd_ret, wp_bnd]
      rw [wp_dat_lst c1]
      simp [Rt]
/-! ### what is asked of a talk -/
theorem insU_len {x : Int} {l : List Int} (h : x ∉ l) : (insU x l).length = l.length + 1 := by
  induction l with
  | nil => rfl
  | cons z l ih =>
    unfold insU
    have h1 : x ≠ z := fun e => h (by simp [e])
    split
    · simp
    · simp [ih fun e => h (by simp [e])]
theorem usort_len {l : List Int} (h : l.Nodup) : (usort l).length = l.length := by
  induction l with
  | nil => rfl
  | cons x l ih =>
    obtain ⟨h1, h2⟩ := List.nodup_cons.mp h
    have : x ∉ usort l := fun z => h1 (mem_usort.mp z)
    show (insU x (usort l)).length = _
    rw [insU_len this, ih h2]; rfl
theorem s_are_speakers {sizes sp : List Nat} (h : SpOk sizes sp) : f_are_speakers [.d (Nt sizes), .d (Nt sp)] = ret (.d (.bool true)) := by
  refine den_ret rfl rfl (ρ' := [some (.d (Nt sizes)), some (.d (Nt sp)), none]) ?_
  have h1 : comp [] (turn1 c_are_speakers (.nm 2) [2] .nil (.call 0 (.cons (.var 2) .nil)) [some (.d (Nt sizes)), some (.d (Nt sp)), none]) (sp.map fun s => .d (.int (s : Nat))) = ret (sp.map fun _ => .bool true) := by
    refine lc_map _ fun r hr => ?_
    simp [c_are_speakers]
  have h2 : comp [] (turn1 c_are_speakers (.nm 2) [2] .nil (.chn .LtE .Lt (.con (.int 0)) (.var 2) (.b1 .len 0 (.var 0))) [some (.d (Nt sizes)), some (.d (Nt sp)), none]) (sp.map fun s => .d (.int (s : Nat))) = ret (sp.map fun _ => .bool true) := by
    refine lc_map _ fun r hr => ?_
    have := h.2.1 r hr
    simp [this]
  have e1 : PyData.eqv (Nt sp) (.tuple []) = false := by
    unfold Nt; simp [h.1]
  have e2 : b1D .lenset (Nt sp) = some (.int (sp.length : Nat)) := by
    unfold Nt; rw [lenset_tuple, intsOf_map, Option.bind_some, if_pos (by rw [List.length_map]; exact decide_eq_true (by have := h.2.2.2; omega))]
    rw [usort_len]
    · simp
    · exact (List.pairwise_map.mpr (h.2.2.1.imp fun {a b} hab e => hab (by omega)))
  simp only [c_are_speakers] at h1 h2
  simp [b_are_speakers, c_are_speakers, subTy, e1, e2, h1, h2, Function.comp_def, boolsOf_map]
theorem s_need_talk {sizes sp : List Nat} {p : Row → Rat} (h : TbOk sizes p) (hs : SpOk sizes sp) (ev : Row → Bool) : f_need_talk [.d (Tb sizes p), .d (Nt sp), .d (Ev sizes ev)] = ret (.d .none) := by
  refine den_nx rfl rfl (ρ' := [some (.d (Tb sizes p)), some (.d (Nt sp)), some (.d (Ev sizes ev))]) ?_
  simp [b_need_talk, c_need_talk, h, s_need_event, s_are_speakers hs]
theorem s_need_drawn {sizes : List Nat} {p : Row → Rat} {row : Row} (hr : row ∈ rows sizes) (h0 : p row ≠ 0) : f_need_drawn [.d (Tb sizes p), .d (Nt row)] = ret (.d .none) := by
  refine den_nx rfl rfl (ρ' := [some (.d (Tb sizes p)), some (.d (Nt row))]) ?_
  have hr' := mem_rows.mp hr
  simp [b_need_drawn, c_need_drawn, s_is_row, hr', idx_Dp hr, R0, h0]
theorem s_talk {sizes sp : List Nat} {p : Row → Rat} {ev : Row → Bool} {row : Row} (h : TbOk sizes p) (hsp : SpOk sizes sp) (hr : row ∈ rows sizes) (h0 : p row ≠ 0) :
    f_talk [.d (Tb sizes p), .d (Nt sp), .d (Ev sizes ev), .d (Nt row)] = ret (.d (Rt (fin sizes p ev sp row).told)) := by
  refine den_ret rfl rfl (ρ' := [some (.d (Tb sizes p)), some (.d (Nt sp)), some (.d (Ev sizes ev)), some (.d (Nt row))]) ?_
  simp [b_talk, c_talk, s_need_talk h hsp, s_need_drawn hr h0, s_talked h hsp hr h0]
theorem s_left_open {sizes sp : List Nat} {p : Row → Rat} {ev : Row → Bool} {row : Row} (h : TbOk sizes p) (hsp : SpOk sizes sp) (hr : row ∈ rows sizes) (h0 : p row ≠ 0) :
    f_left_open [.d (Tb sizes p), .d (Nt sp), .d (Ev sizes ev), .d (Nt row)] = ret (.d (Ev sizes (fin sizes p ev sp row).still)) := by
  refine den_ret rfl rfl (ρ' := [some (.d (Tb sizes p)), some (.d (Nt sp)), some (.d (Ev sizes ev)), some (.d (Nt row))]) ?_
  simp [b_left_open, c_left_open, s_need_talk h hsp, s_need_drawn hr h0, s_talked h hsp hr h0]
end EV.Sp
end

section
set_option autoImplicit false
set_option linter.all false
set_option maxRecDepth 100000
/-! SpN: what is so of talks, no program in sight. -/
namespace EV.Sp
open PySem
/-- alike over all rows -/
def Eqr (sizes : List Nat) (a b : Row → Bool) : Prop := ∀ r ∈ rows sizes, a r = b r
theorem pr_congr {sizes : List Nat} {p p' : Row → Rat} {a b : Row → Bool} (h : Eqr sizes a b) (hp : ∀ r ∈ rows sizes, p r = p' r) : pr sizes p a = pr sizes p' b := by
  rw [pr_eq, pr_eq]
  refine congrArg List.sum (map_congr' fun r hr => ?_)
  rw [h r hr, hp r hr]
theorem pr_congr1 {sizes : List Nat} {p : Row → Rat} {a b : Row → Bool} (h : Eqr sizes a b) : pr sizes p a = pr sizes p b := pr_congr h fun _ _ => rfl
theorem filter_eqr {sizes : List Nat} {a b : Row → Bool} : (rows sizes).filter a = (rows sizes).filter b ↔ Eqr sizes a b := by
  constructor
  · intro h r hr
    have : (r ∈ (rows sizes).filter a) = (r ∈ (rows sizes).filter b) := by rw [h]
    simp only [List.mem_filter, hr, true_and, eq_iff_iff] at this
    cases ha : a r <;> cases hb : b r <;> simp_all
  · intro h; exact List.filter_congr h
theorem Ev_congr {sizes : List Nat} {a b : Row → Bool} (h : Eqr sizes a b) : Ev sizes a = Ev sizes b := by unfold Ev; rw [filter_eqr.mpr h]
theorem qt_congr {sizes : List Nat} {p : Row → Rat} {ev ev' s s' : Row → Bool} (he : Eqr sizes ev ev') (hs : Eqr sizes s s') (place l : Nat) : qt sizes p ev s place l = qt sizes p ev' s' place l := by
  unfold qt
  rw [pr_congr1 (a := fun r => ev r && own s place l r) (b := fun r => ev' r && own s' place l r) fun r hr => by simp only [own, he r hr, hs r hr], pr_congr1 (a := own s place l) (b := own s' place l) fun r hr => by simp only [own, hs r hr]]
theorem nx_congr {sizes : List Nat} {p : Row → Rat} {ev ev' s s' : Row → Bool} (he : Eqr sizes ev ev') (hs : Eqr sizes s s') (place l : Nat) : Eqr sizes (nx sizes p ev s place l) (nx sizes p ev' s' place l) := by
  intro r hr
  unfold nx
  rw [qt_congr he hs, qt_congr he hs, hs r hr]
theorem pr_split {sizes : List Nat} {p : Row → Rat} (a c : Row → Bool) : pr sizes p (fun r => a r && c r) + pr sizes p (fun r => !a r && c r) = pr sizes p c := by
  rw [pr_eq, pr_eq, pr_eq, ← sum_two]
  refine congrArg List.sum (map_congr' fun r hr => ?_)
  cases a r <;> cases c r <;> simp <;> grind
/-! ### two talks beside one another -/
structure Like (sizes : List Nat) (φ : Rat → Rat) (a b : TS) : Prop where
  still : Eqr sizes b.still a.still
  told : b.told = a.told.map φ
  calm : b.calm = a.calm
theorem like_run {sizes sp : List Nat} {p : Row → Rat} {ev ev' : Row → Bool} {row : Row} {φ : Rat → Rat} (hφ : ∀ x y, φ x = φ y → x = y) (hr : row ∈ rows sizes)
    (H : ∀ (s : Row → Bool) (place : Nat) (r : Row), (∀ r ∈ rows sizes, s r = true → p r ≠ 0) → r ∈ rows sizes → s r = true → qt sizes p ev' s place (lv place r) = φ (qt sizes p ev s place (lv place r))) :
    ∀ (f : Nat) (a b : TS), (∀ r ∈ rows sizes, a.still r = true → p r ≠ 0) → a.still row = true → Like sizes φ a b → Like sizes φ (runF sizes p ev sp row f a) (runF sizes p ev' sp row f b) := by
  intro f
  induction f with
  | zero => intro a b _ _ h; exact h
  | succ f ih =>
    intro a b hp hs h
    unfold runF
    rw [h.calm]
    split
    · have pe : plc sp b = plc sp a := by unfold plc; rw [h.told, List.length_map]
      have q1 : ∀ r ∈ rows sizes, a.still r = true → qt sizes p ev' b.still (plc sp b) (lv (plc sp b) r) = φ (qt sizes p ev a.still (plc sp a) (lv (plc sp a) r)) := fun r hr hsr => by
        rw [pe, qt_congr (fun _ _ => rfl) h.still]; exact H _ _ _ hp hr hsr
      have ne : Eqr sizes (nx sizes p ev' b.still (plc sp b) (lv (plc sp b) row)) (nx sizes p ev a.still (plc sp a) (lv (plc sp a) row)) := by
        intro r hr'
        unfold nx
        rw [h.still r hr']
        cases hsr : a.still r
        · simp
        · rw [q1 r hr' hsr, q1 row hr hs]
          simp only [Bool.and_true]
          by_cases e : qt sizes p ev a.still (plc sp a) (lv (plc sp a) r) = qt sizes p ev a.still (plc sp a) (lv (plc sp a) row)
          · simp [e]
          · have : ¬ φ (qt sizes p ev a.still (plc sp a) (lv (plc sp a) r)) = φ (qt sizes p ev a.still (plc sp a) (lv (plc sp a) row)) := fun z => e (hφ _ _ z)
            simp [e, this]
      refine ih _ _ (fun r hr' hn => ?_) ?_ ⟨ne, ?_, ?_⟩
      · simp [stp, nx] at hn; exact hp r hr' hn.2
      · simp [stp, nx, hs]
      · simp [stp, h.told, q1 row hr hs]
      · simp only [stp]
        rw [filter_eqr.mpr ne, filter_eqr.mpr h.still, h.calm]
    · exact h
/-! ### the end of a talk -/
structure Agr (sizes : List Nat) (p : Row → Rat) (ev : Row → Bool) (sp : List Nat) (row : Row) (ts : TS) : Prop where
  pos : ∀ r ∈ rows sizes, ts.still r = true → p r ≠ 0
  own : ts.still row = true
  c1 : ts.calm ≤ sp.length
  c2 : ts.calm ≤ ts.told.length
  agr : ∀ j < ts.calm, ts.told[ts.told.length - 1 - j]? = some (qt sizes p ev ts.still (sp.getD ((ts.told.length - 1 - j) % sp.length) 0) (lv (sp.getD ((ts.told.length - 1 - j) % sp.length) 0) row)) ∧
    ∀ r ∈ rows sizes, ts.still r = true → qt sizes p ev ts.still (sp.getD ((ts.told.length - 1 - j) % sp.length) 0) (lv (sp.getD ((ts.told.length - 1 - j) % sp.length) 0) r) = qt sizes p ev ts.still (sp.getD ((ts.told.length - 1 - j) % sp.length) 0) (lv (sp.getD ((ts.told.length - 1 - j) % sp.length) 0) row)
theorem agr_step {sizes sp : List Nat} {p : Row → Rat} {ev : Row → Bool} {row : Row} {ts : TS} (h : Agr sizes p ev sp row ts) (hc : ts.calm < sp.length) : Agr sizes p ev sp row (stp sizes p ev sp row ts) := by
  have hlen : (stp sizes p ev sp row ts).told.length = ts.told.length + 1 := by simp [stp]
  have base : (∀ r ∈ rows sizes, (stp sizes p ev sp row ts).still r = true → p r ≠ 0) ∧ (stp sizes p ev sp row ts).still row = true := by
    constructor
    · intro r hr hn; simp [stp, nx] at hn; exact h.pos r hr hn.2
    · simp [stp, nx, h.own]
  by_cases e : (rows sizes).filter (nx sizes p ev ts.still (plc sp ts) (lv (plc sp ts) row)) = (rows sizes).filter ts.still
  · have ec : (stp sizes p ev sp row ts).calm = ts.calm + 1 := by simp [stp, e]
    have er : Eqr sizes (stp sizes p ev sp row ts).still ts.still := filter_eqr.mp e
    have qe : ∀ place l, qt sizes p ev (stp sizes p ev sp row ts).still place l = qt sizes p ev ts.still place l := fun place l => qt_congr (fun _ _ => rfl) er place l
    refine ⟨base.1, base.2, by omega, by have := h.c2; omega, fun j hj => ?_⟩
    rw [hlen]
    cases j with
    | zero =>
      have i0 : ts.told.length + 1 - 1 - 0 = ts.told.length := by omega
      rw [i0]
      constructor
      · rw [qe]; simp [stp, plc]
      · intro r hr hs
        rw [qe, qe]
        have : (stp sizes p ev sp row ts).still r = true := hs
        simp [stp, nx] at this
        exact this.1
    | succ j =>
      have ij : ts.told.length + 1 - 1 - (j + 1) = ts.told.length - 1 - j := by omega
      rw [ij]
      obtain ⟨a1, a2⟩ := h.agr j (by omega)
      constructor
      · rw [qe, ← a1]
        have := h.c2
        simp only [stp]
        rw [List.getElem?_append_left (by omega)]
      · intro r hr hs
        rw [qe, qe]
        exact a2 r hr (by rw [← er r hr]; exact hs)
  · have ec : (stp sizes p ev sp row ts).calm = 0 := by simp [stp, e]
    exact ⟨base.1, base.2, by omega, by omega, fun j hj => by omega⟩
theorem agr_run {sizes sp : List Nat} {p : Row → Rat} {ev : Row → Bool} {row : Row} : ∀ (f : Nat) (ts : TS), Agr sizes p ev sp row ts → Agr sizes p ev sp row (runF sizes p ev sp row f ts) ∧ (mu sizes sp ts ≤ f → ¬(runF sizes p ev sp row f ts).calm < sp.length) := by
  intro f
  induction f with
  | zero =>
    intro ts h
    refine ⟨h, fun hm hc => ?_⟩
    unfold mu at hm
    simp only [runF] at hc
    omega
  | succ f ih =>
    intro ts h
    unfold runF
    split
    · rename_i hc
      obtain ⟨h1, h2⟩ := ih _ (agr_step h hc)
      refine ⟨h1, fun hm => h2 ?_⟩
      have := mu_lt (sizes := sizes) (p := p) (ev := ev) (row := row) hc
      omega
    · rename_i hc
      exact ⟨h, fun _ => hc⟩
theorem mu_ini {sizes sp : List Nat} {p : Row → Rat} (h : SzOk sizes) (hs : sp.length ≤ 4) : mu sizes sp (ini p) ≤ 1000 := by
  have a1 : ((rows sizes).filter (pos p)).length ≤ 36 := Nat.le_trans (List.length_filter_le _ _) (by rw [len_rows]; exact h.2.2.2)
  have := Nat.mul_le_mul a1 (Nat.add_le_add_right hs 1)
  show ((rows sizes).filter (pos p)).length * (sp.length + 1) + (sp.length - 0) ≤ 1000
  omega
/-! ### sums by levels -/
theorem sum_zero {α : Type} (l : List α) : (l.map fun _ => (0 : Rat)).sum = 0 := by
  induction l with
  | nil => rfl
  | cons x l ih => simp only [List.map_cons, List.sum_cons, ih]; grind
theorem sum_one {M a : Nat} (h : a < M) (y : Rat) : ((List.range M).map fun k => if a = k then y else 0).sum = y := by
  induction M with
  | zero => omega
  | succ M ih =>
    rw [List.range_succ, List.map_append, sum_append]
    simp only [List.map_cons, List.map_nil, List.sum_cons, List.sum_nil]
    by_cases e : a = M
    · subst e
      have : ((List.range a).map fun k => if a = k then y else 0) = (List.range a).map fun _ => 0 := map_congr' fun k hk => by
        have := List.mem_range.mp hk
        rw [if_neg (by omega)]
      rw [this, sum_zero]; simp; grind
    · rw [ih (by omega)]; simp [e]; grind
theorem sum_two' {α : Type} (l : List α) (f g : α → Rat) : (l.map fun r => f r + g r).sum = (l.map f).sum + (l.map g).sum := by
  induction l with
  | nil => simp [Rat.add_zero]
  | cons x l ih => simp only [List.map_cons, List.sum_cons, ih]; grind
theorem sum_levels (l : List Row) (f : Row → Rat) (lvl : Row → Nat) (M : Nat) (h : ∀ r ∈ l, lvl r < M) : (l.map f).sum = ((List.range M).map fun k => (l.map fun r => if lvl r = k then f r else 0).sum).sum := by
  induction l with
  | nil => simp only [List.map_nil, List.sum_nil]; rw [sum_zero]
  | cons x l ih =>
    simp only [List.map_cons, List.sum_cons]
    rw [sum_two', sum_one (h x (by simp)), ← ih fun r hr => h r (by simp [hr])]
theorem pr_levels {sizes : List Nat} (p : Row → Rat) (place M : Nat) (h : ∀ r ∈ rows sizes, lv place r < M) (c : Row → Bool) : pr sizes p c = ((List.range M).map fun k => pr sizes p fun r => decide (lv place r = k) && c r).sum := by
  rw [pr_eq, sum_levels _ _ (lv place) M h]
  refine congrArg List.sum (map_congr' fun k _ => ?_)
  rw [pr_eq]
  refine congrArg List.sum (map_congr' fun r _ => ?_)
  by_cases e : lv place r = k <;> cases c r <;> simp [e]
theorem lv_lt {sizes : List Nat} (h : SzOk sizes) {r : Row} (hr : r ∈ rows sizes) (place : Nat) : lv place r < 4 := by
  have key : ∀ (ss : List Nat) (r : Row) (place : Nat), (∀ s ∈ ss, 2 ≤ s ∧ s ≤ 4) → inR r ss = true → r.getD place 0 < 4 := by
    intro ss
    induction ss with
    | nil => intro r place _ h; cases r with
      | nil => simp
      | cons l r => simp [inR] at h
    | cons s ss ih => intro r place hs h; cases r with
      | nil => simp [inR] at h
      | cons l r =>
        simp [inR] at h
        cases place with
        | zero => have := hs s (by simp); simp; omega
        | succ place => have := ih r place (fun s hs' => hs s (by simp [hs'])) h.2; simpa using this
  exact key sizes r place h.2.2.1 (mem_rows.mp hr)
/-- if all levels tell one number, it is the chance -/
theorem const_total {sizes : List Nat} {p : Row → Rat} (h : TbOk sizes p) {ev s : Row → Bool} {place : Nat} {d : Rat} (hp : ∀ r ∈ rows sizes, s r = true → p r ≠ 0) (hd : ∀ r ∈ rows sizes, s r = true → qt sizes p ev s place (lv place r) = d) :
    pr sizes p (fun r => ev r && s r) = d * pr sizes p s := by
  rw [pr_levels p place 4 (fun r hr => lv_lt h.sz hr place) (fun r => ev r && s r), pr_levels p place 4 (fun r hr => lv_lt h.sz hr place) s]
  have : ∀ l : List Nat, (l.map fun k => pr sizes p fun r => decide (lv place r = k) && (ev r && s r)).sum = d * (l.map fun k => pr sizes p fun r => decide (lv place r = k) && s r).sum := by
    intro l
    induction l with
    | nil => simp [Rat.mul_zero]
    | cons k l ih =>
      simp only [List.map_cons, List.sum_cons, ih, Rat.mul_add]
      congr 1
      have e1 : (pr sizes p fun r => decide (lv place r = k) && (ev r && s r)) = pr sizes p fun r => ev r && own s place k r := pr_congr1 fun r _ => by simp only [own]; cases ev r <;> cases decide (lv place r = k) <;> cases s r <;> rfl
      rw [e1]
      show _ = d * pr sizes p (own s place k)
      by_cases ex : ∃ r ∈ rows sizes, s r = true ∧ lv place r = k
      · obtain ⟨r, hr, hs, rfl⟩ := ex
        have h0 : pr sizes p (own s place (lv place r)) ≠ 0 := pr_pos h hr (by simp [own, hs]) (hp r hr hs)
        have := hd r hr hs
        unfold qt at this
        rw [← this]; grind
      · have z : ∀ c : Row → Bool, Eqr sizes (fun r => c r && own s place k r) fun _ => false := fun c r hr => by
          have : own s place k r = false := by
            unfold own
            cases hs : s r
            · simp
            · have : lv place r ≠ k := fun e => ex ⟨r, hr, hs, e⟩
              simp [this]
          simp [this]
        have z0 : pr sizes p (fun _ => false) = 0 := by rw [pr_eq]; simp only [Bool.false_eq_true, if_false]; exact sum_zero _
        rw [pr_congr1 (z ev), z0]
        have : pr sizes p (own s place k) = pr sizes p (fun r => true && own s place k r) := rfl
        rw [this, pr_congr1 (z fun _ => true), z0, Rat.mul_zero]
  exact this _
theorem mod_cover {N k i : Nat} (hi : i < k) (hN : i ≤ N) : (N - (N - i) % k) % k = i := by
  have h1 : N - (N - i) % k = i + k * ((N - i) / k) := by
    have := Nat.div_add_mod (N - i) k
    omega
  rw [h1, Nat.add_mul_mod_self_left, Nat.mod_eq_of_lt hi]
structure End (sizes : List Nat) (p : Row → Rat) (ev : Row → Bool) (sp : List Nat) (ts : TS) (c : Rat) : Prop where
  pos : ∀ r ∈ rows sizes, ts.still r = true → p r ≠ 0
  nz : pr sizes p ts.still ≠ 0
  len : sp.length ≤ ts.told.length
  last : ∀ j < sp.length, ts.told[ts.told.length - 1 - j]? = some c
  chance : c = pr sizes p (fun r => ev r && ts.still r) / pr sizes p ts.still
  agr : ∀ place ∈ sp, ∀ r ∈ rows sizes, ts.still r = true → qt sizes p ev ts.still place (lv place r) = c
theorem fin_end {sizes sp : List Nat} {p : Row → Rat} {ev : Row → Bool} {row : Row} (h : TbOk sizes p) (hsp : SpOk sizes sp) (hr : row ∈ rows sizes) (h0 : p row ≠ 0) :
    (fin sizes p ev sp row).still row = true ∧ ∃ c, End sizes p ev sp (fin sizes p ev sp row) c := by
  have a0 : Agr sizes p ev sp row (ini p) := ⟨fun r _ hs => by simpa [ini, pos] using hs, by simpa [ini, pos] using h0, Nat.zero_le _, Nat.zero_le _, fun j hj => by simp [ini] at hj⟩
  obtain ⟨a, hn⟩ := agr_run (sp := sp) (ev := ev) (row := row) 1000 _ a0
  have hn := hn (mu_ini h.sz hsp.2.2.2)
  show (runF sizes p ev sp row 1000 (ini p)).still row = true ∧ ∃ c, End sizes p ev sp (runF sizes p ev sp row 1000 (ini p)) c
  generalize runF sizes p ev sp row 1000 (ini p) = ts at *
  have hk : ts.calm = sp.length := by have := a.c1; omega
  have hl : sp.length ≤ ts.told.length := by have := a.c2; omega
  have k0 : 0 < sp.length := List.length_pos_iff.mpr hsp.1
  have some0 : pr sizes p ts.still ≠ 0 := pr_pos h hr a.own h0
  have one : ∀ j < sp.length, qt sizes p ev ts.still (sp.getD ((ts.told.length - 1 - j) % sp.length) 0) (lv (sp.getD ((ts.told.length - 1 - j) % sp.length) 0) row) = pr sizes p (fun r => ev r && ts.still r) / pr sizes p ts.still := fun j hj => by
    have := const_total h a.pos (a.agr j (by omega)).2
    rw [this]; grind
  refine ⟨a.own, _, ⟨a.pos, some0, hl, fun j hj => ?_, rfl, fun place hp r hr' hs => ?_⟩⟩
  · rw [(a.agr j (by omega)).1, one j hj]
  · obtain ⟨i, hi, e⟩ := List.mem_iff_getElem.mp hp
    have hj : (ts.told.length - 1 - i) % sp.length < sp.length := Nat.mod_lt _ k0
    have cov := mod_cover (N := ts.told.length - 1) hi (by omega)
    have pe : sp.getD ((ts.told.length - 1 - (ts.told.length - 1 - i) % sp.length) % sp.length) 0 = place := by
      rw [cov]; simp [List.getD_eq_getElem?_getD, hi, e]
    have a2 := (a.agr ((ts.told.length - 1 - i) % sp.length) (by omega)).2 r hr' hs
    have o := one _ hj
    rw [pe] at a2 o
    rw [a2, o]
/-! ### a talk that stays -/
theorem run_const {sizes sp : List Nat} {p : Row → Rat} {ev s : Row → Bool} {row : Row} {c : Rat} (hsp : SpOk sizes sp) (hr : row ∈ rows sizes) (hrs : s row = true) (hq : ∀ place ∈ sp, ∀ r ∈ rows sizes, s r = true → qt sizes p ev s place (lv place r) = c) :
    ∀ (f j : Nat) (ts : TS), Eqr sizes ts.still s → ts.told = List.replicate j c → ts.calm = j → j ≤ sp.length → sp.length - j ≤ f → Eqr sizes (runF sizes p ev sp row f ts).still s ∧ (runF sizes p ev sp row f ts).told = List.replicate sp.length c := by
  intro f
  induction f with
  | zero =>
    intro j ts h1 h2 h3 h4 h5
    have : j = sp.length := by omega
    subst this
    exact ⟨h1, h2⟩
  | succ f ih =>
    intro j ts h1 h2 h3 h4 h5
    unfold runF
    split
    · rename_i hc
      have pm := (plc_lt hsp ts).1
      have q1 : ∀ r ∈ rows sizes, s r = true → qt sizes p ev ts.still (plc sp ts) (lv (plc sp ts) r) = c := fun r hr hs => by
        rw [qt_congr (fun _ _ => rfl) h1]; exact hq _ pm r hr hs
      have en : Eqr sizes (nx sizes p ev ts.still (plc sp ts) (lv (plc sp ts) row)) ts.still := by
        intro r hr'
        unfold nx
        rw [q1 row hr hrs, h1 r hr']
        cases hs : s r
        · simp
        · simp [q1 r hr' hs]
      refine ih (j + 1) _ (fun r hr' => (en r hr').trans (h1 r hr')) ?_ ?_ (by omega) (by omega)
      · simp [stp, h2, q1 row hr hrs, List.replicate_succ']
      · simp [stp, filter_eqr.mpr en, h3]
    · rename_i hc
      have : j = sp.length := by omega
      subst this
      exact ⟨h1, h2⟩
end EV.Sp
end

section
set_option autoImplicit false
set_option linter.all false
set_option maxRecDepth 100000
set_option exponentiation.threshold 10000
/-! SpO: what the law asks of talks, no program in sight. -/
namespace EV.Sp
open PySem
theorem ini_pos {sizes : List Nat} {p : Row → Rat} : ∀ r ∈ rows sizes, (ini p).still r = true → p r ≠ 0 := fun r _ hs => by simpa [ini, pos] using hs
theorem ini_row {p : Row → Rat} {row : Row} (h0 : p row ≠ 0) : (ini p).still row = true := by simpa [ini, pos] using h0
section
variable {sizes sp : List Nat} {p : Row → Rat} {ev : Row → Bool} {row : Row}
theorem fin_compl (h : TbOk sizes p) (hr : row ∈ rows sizes) (h0 : p row ≠ 0) :
    (fin sizes p (fun r => !ev r) sp row).told = (fin sizes p ev sp row).told.map (fun x => 1 - x) ∧ Eqr sizes (fin sizes p (fun r => !ev r) sp row).still (fin sizes p ev sp row).still := by
  have := like_run (sp := sp) (ev := ev) (ev' := fun r => !ev r) (φ := fun x => 1 - x) (p := p) (fun x y e => by grind) hr (fun s place r hp hr hs => by
    have hn : pr sizes p (own s place (lv place r)) ≠ 0 := pr_pos h hr (by simp [own, hs]) (hp r hr hs)
    have := pr_split (sizes := sizes) (p := p) ev (own s place (lv place r))
    unfold qt
    grind) 1000 (ini p) (ini p) ini_pos (ini_row h0) ⟨fun _ _ => rfl, rfl, rfl⟩
  exact ⟨this.told, this.still⟩
theorem fin_wider {ev' : Row → Bool} (hr : row ∈ rows sizes) (h0 : p row ≠ 0) (hw : ∀ r ∈ rows sizes, p r ≠ 0 → ev' r = ev r) :
    (fin sizes p ev' sp row).told = (fin sizes p ev sp row).told ∧ Eqr sizes (fin sizes p ev' sp row).still (fin sizes p ev sp row).still := by
  have := like_run (sp := sp) (ev := ev) (ev' := ev') (φ := id) (p := p) (fun x y e => e) hr (fun s place r hp hr hs => by
    unfold qt
    have : pr sizes p (fun r_1 => ev' r_1 && own s place (lv place r) r_1) = pr sizes p (fun r_1 => ev r_1 && own s place (lv place r) r_1) := by
      rw [pr_eq, pr_eq]
      refine congrArg List.sum (map_congr' fun x hx => ?_)
      by_cases e : p x = 0
      · rw [e]; simp
      · rw [hw x hx e]
    rw [this]; rfl) 1000 (ini p) (ini p) ini_pos (ini_row h0) ⟨fun _ _ => rfl, by simp [ini], rfl⟩
  exact ⟨by have := this.told; rw [List.map_id] at this; exact this, this.still⟩
theorem k_le (hs : SpOk sizes sp) : sp.length - 0 ≤ 1000 := by have := hs.2.2.2; omega
theorem fin_const {s : Row → Bool} {c : Rat} (hsp : SpOk sizes sp) (hr : row ∈ rows sizes) (hrs : s row = true) (hs : Eqr sizes (pos p) s) (hq : ∀ place ∈ sp, ∀ r ∈ rows sizes, s r = true → qt sizes p ev s place (lv place r) = c) :
    Eqr sizes (fin sizes p ev sp row).still s ∧ (fin sizes p ev sp row).told = List.replicate sp.length c :=
  run_const hsp hr hrs hq 1000 0 (ini p) hs rfl rfl (Nat.zero_le _) (k_le hsp)
theorem fin_whole (h : TbOk sizes p) (hsp : SpOk sizes sp) (hr : row ∈ rows sizes) (h0 : p row ≠ 0) :
    Eqr sizes (fin sizes p (fun _ => true) sp row).still (pos p) ∧ (fin sizes p (fun _ => true) sp row).told = List.replicate sp.length 1 :=
  fin_const hsp hr (by simpa [pos] using h0) (fun _ _ => rfl) fun place _ r hr hs => by
    have hn : pr sizes p (own (pos p) place (lv place r)) ≠ 0 := pr_pos h hr (by simp [own, hs]) (by simpa [pos] using hs)
    unfold qt
    simp only [Bool.true_and]
    show pr sizes p (own (pos p) place (lv place r)) / pr sizes p (own (pos p) place (lv place r)) = 1
    grind
theorem fin_none (hsp : SpOk sizes sp) (hr : row ∈ rows sizes) (h0 : p row ≠ 0) :
    Eqr sizes (fin sizes p (fun _ => false) sp row).still (pos p) ∧ (fin sizes p (fun _ => false) sp row).told = List.replicate sp.length 0 :=
  fin_const hsp hr (by simpa [pos] using h0) (fun _ _ => rfl) fun place _ r hr hs => by
    unfold qt
    have z0 : pr sizes p (fun _ => false) = 0 := by rw [pr_eq]; simp only [Bool.false_eq_true, if_false]; exact sum_zero _
    simp only [Bool.false_and]
    rw [z0, Rat.div_def, Rat.zero_mul]
theorem cond_row {s : Row → Bool} {r : Row} (hs : s r = true) (hp : p r ≠ 0) (hz : pr sizes p s ≠ 0) : cond sizes p s r ≠ 0 := by
  unfold cond; rw [if_pos hs, Rat.div_def]
  intro e
  have hz' : (pr sizes p s)⁻¹ ≠ 0 := fun z => by
    have := Rat.mul_inv_cancel _ hz
    rw [z, Rat.mul_zero] at this
    exact absurd this (by decide)
  rcases Rat.mul_eq_zero.mp e with e | e
  · exact hp e
  · exact hz' e
theorem qt_cond {s : Row → Bool} (hz : pr sizes p s ≠ 0) (place l : Nat) : qt sizes (cond sizes p s) ev s place l = qt sizes p ev s place l := by
  unfold qt
  rw [pr_cond, pr_cond]
  have e1 : pr sizes p (fun r => s r && (ev r && own s place l r)) = pr sizes p (fun r => ev r && own s place l r) := pr_congr1 fun r _ => by
    simp only [own]; cases s r <;> simp
  have e2 : pr sizes p (fun r => s r && own s place l r) = pr sizes p (own s place l) := pr_congr1 fun r _ => by
    simp only [own]; cases s r <;> simp
  rw [e1, e2]
  grind
theorem fin_later {ts : TS} {c : Rat} (hsp : SpOk sizes sp) (hr : row ∈ rows sizes) (hrs : ts.still row = true) (e : End sizes p ev sp ts c) :
    Eqr sizes (fin sizes (cond sizes p ts.still) ev sp row).still ts.still ∧ (fin sizes (cond sizes p ts.still) ev sp row).told = List.replicate sp.length c :=
  fin_const hsp hr hrs (fun r hr => by
    unfold pos
    cases hs : ts.still r
    · simp [cond, hs]
    · simpa using cond_row hs (e.pos r hr hs) e.nz) fun place hp r hr hs => by rw [qt_cond e.nz]; exact e.agr place hp r hr hs
theorem later_chance {ts : TS} {c : Rat} (e : End sizes p ev sp ts c) : pr sizes (cond sizes p ts.still) ev = c := by
  rw [pr_cond, e.chance]
  rw [pr_congr1 (a := fun r => ts.still r && ev r) (b := fun r => ev r && ts.still r) fun r _ => Bool.and_comm _ _]
/-! ### sizes of what is told -/
theorem qt_sm (h : TbOk sizes p) (s : Row → Bool) (place l : Nat) : Sm 4000 (qt sizes p ev s place l) := by
  obtain ⟨D, d0, dl, f⟩ := h.fr
  obtain ⟨n, hn⟩ := pr_fr d0 f (fun r => ev r && own s place l r)
  obtain ⟨m, hm⟩ := pr_fr d0 f (own s place l)
  have hD : (D : Rat) ≠ 0 := by simpa using d0
  have hp : (0 : Rat) < (D : Rat) := by exact_mod_cast Nat.pos_of_ne_zero d0
  have le : pr sizes p (fun r => ev r && own s place l r) ≤ pr sizes p (own s place l) := by
    have e1 : (rows sizes).filter (fun r => ev r && own s place l r) = ((rows sizes).filter (own s place l)).filter ev := by rw [List.filter_filter]
    unfold pr
    rw [e1]
    exact sum_sub (List.Sublist.map p List.filter_sublist) fun y hy => by obtain ⟨r', hr', rfl⟩ := List.mem_map.mp hy; exact h.nonneg (mf hr')
  have nm : n ≤ m := by
    have h2 := Rat.mul_le_mul_of_nonneg_right le (Rat.le_of_lt hp)
    rw [hn, hm] at h2
    have e1 : (n : Rat) / (D : Rat) * (D : Rat) = n := by grind
    have e2 : (m : Rat) / (D : Rat) * (D : Rat) = m := by grind
    rw [e1, e2] at h2
    exact_mod_cast h2
  have mD : m ≤ D := by
    have h2 := Rat.mul_le_mul_of_nonneg_right (pr_le_one h (own s place l)) (Rat.le_of_lt hp)
    rw [hm, Rat.one_mul] at h2
    have e2 : (m : Rat) / (D : Rat) * (D : Rat) = m := by grind
    rw [e2] at h2
    exact_mod_cast h2
  unfold qt
  by_cases m0 : m = 0
  · have : pr sizes p (own s place l) = 0 := by rw [hm, m0]; grind
    have n0 : n = 0 := by omega
    have : pr sizes p (fun r => ev r && own s place l r) / pr sizes p (own s place l) = 0 := by rw [hn, n0, Rat.div_def, Rat.div_def]; simp [Rat.zero_mul]
    rw [this]; exact Sm_zero.mono (by decide)
  · have hm0 : (m : Rat) ≠ 0 := by simpa using m0
    have e : pr sizes p (fun r => ev r && own s place l r) / pr sizes p (own s place l) = Rat.divInt (n : Int) (m : Int) := by
      rw [hn, hm, Rat.divInt_eq_div]
      show (n : Rat) / (D : Rat) / ((m : Rat) / (D : Rat)) = (n : Rat) / (m : Rat)
      grind
    rw [e]
    exact Sm_divInt (by simpa using Nat.lt_of_le_of_lt (Nat.le_trans nm mD) dl) (by simpa using Nat.lt_of_le_of_lt mD dl) (by omega)
theorem run_told (h : TbOk sizes p) : ∀ (f : Nat) (ts : TS), (∀ x ∈ ts.told, Sm 4000 x) → (∀ x ∈ (runF sizes p ev sp row f ts).told, Sm 4000 x) ∧ (runF sizes p ev sp row f ts).told.length ≤ ts.told.length + f := by
  intro f
  induction f with
  | zero => intro ts hs; exact ⟨hs, Nat.le_refl _⟩
  | succ f ih =>
    intro ts hs
    unfold runF
    split
    · obtain ⟨a, b⟩ := ih (stp sizes p ev sp row ts) fun x hx => by
        simp only [stp, List.mem_append, List.mem_singleton] at hx
        rcases hx with hx | rfl
        · exact hs x hx
        · exact qt_sm h _ _ _
      refine ⟨a, ?_⟩
      have : (stp sizes p ev sp row ts).told.length = ts.told.length + 1 := by simp [stp]
      omega
    · exact ⟨hs, by omega⟩
theorem fin_told (h : TbOk sizes p) : (∀ x ∈ (fin sizes p ev sp row).told, Sm 4000 x) ∧ (fin sizes p ev sp row).told.length ≤ 1000 := by
  obtain ⟨a, b⟩ := run_told (ev := ev) (sp := sp) (row := row) h 1000 (ini p) (fun x hx => by simp [ini] at hx)
  have b' : (runF sizes p ev sp row 1000 (ini p)).told.length ≤ 0 + 1000 := b
  exact ⟨a, by rw [Nat.zero_add] at b'; exact b'⟩
end
/-! ### plain data -/
theorem Pl_R (q : Rat) : (R q).canLay0 = true ∧ (R q).depth ≤ 1 := by
  constructor
  · simp [R, PyData.canLay0, PyData.canLayAll0]
  · simp [R, PyData.depth, PyData.depthAll]
theorem Pl_Rt (qs : List Rat) : (Rt qs).canLay0 = true ∧ (Rt qs).depth ≤ 2 := by
  unfold Rt
  constructor
  · simp only [PyData.canLay0]; exact canLayAll_map fun x _ => (Pl_R x).1
  · simp only [PyData.depth]; exact Nat.succ_le_succ (depthAll_map fun x _ => (Pl_R x).2)
theorem Pl_Ev (sizes : List Nat) (c : Row → Bool) : (Ev sizes c).canLay0 = true ∧ (Ev sizes c).depth ≤ 2 := by
  unfold Ev
  constructor
  · simp only [PyData.canLay0]; exact canLayAll_map fun x _ => (Nt_ok x).1
  · simp only [PyData.depth]; exact Nat.succ_le_succ (depthAll_map fun x _ => (Nt_ok x).2)
theorem szAll_map {α : Type} (f : α → Dt) (l : List α) (m : Nat) (h : ∀ x ∈ l, szD (f x) ≤ m) : szAll (l.map f) ≤ l.length * m := by
  induction l with
  | nil => simp [szAll]
  | cons x l ih =>
    have := h x (by simp)
    have := ih fun y hy => h y (by simp [hy])
    simp only [List.map_cons, szAll, List.length_cons, Nat.succ_mul]; omega
theorem szD_Rt (qs : List Rat) : szD (Rt qs) ≤ qs.length * 3 + 1 := by
  unfold Rt; simp only [szD]
  have := szAll_map R qs 3 fun x _ => by simp [R, szD, szAll]
  omega
theorem szD_Nt (r : List Nat) : szD (Nt r) ≤ r.length + 1 := by
  unfold Nt; simp only [szD]
  have := szAll_map (fun n : Nat => PyData.int n) r 1 fun x _ => by simp [szD]
  omega
theorem szD_Ev {sizes : List Nat} (h : SzOk sizes) (c : Row → Bool) : szD (Ev sizes c) ≤ 181 := by
  unfold Ev; simp only [szD]
  have h1 := szAll_map Nt ((rows sizes).filter c) 5 fun x hx => by
    have := szD_Nt x
    have := inR_len (mem_rows.mp (mf hx))
    have := h.2.1
    omega
  have h2 : ((rows sizes).filter c).length ≤ 36 := Nat.le_trans (List.length_filter_le _ _) (by rw [len_rows]; exact h.2.2.2)
  omega
/-- the told numbers and the open rows, alike -/
theorem same_two {sizes : List Nat} (h : SzOk sizes) {t t' : List Rat} {s s' : Row → Bool} (ht : t = t') (hs : Eqr sizes s s') (hl : t.length ≤ 1000) : f_law_same [.d (.list [Rt t, Ev sizes s]), .d (.list [Rt t', Ev sizes s'])] = ret (.d (.bool true)) := by
  subst ht
  rw [← Ev_congr hs]
  refine s_law_same ⟨?_, ?_⟩ ?_
  · simp [PyData.canLay0, PyData.canLayAll0, (Pl_Rt t).1, (Pl_Ev sizes s).1]
  · simp only [PyData.depth, PyData.depthAll]
    have := (Pl_Rt t).2
    have := (Pl_Ev sizes s).2
    omega
  · simp only [szD, szAll]
    have := szD_Rt t
    have := szD_Ev h s
    omega
/-! ### sorting -/
theorem lt_data (a b : List Nat) : W.dataLt (Nt a) (Nt b) = ltN a b := by
  unfold Nt
  rw [W.dataLt_tuple]
  induction a generalizing b with
  | nil => cases b with
    | nil => simp [W.keyToksAll, ltN, lexI, PyProof.Rows.lexLt, PyProof.Rows.itemLt, PyProof.Rows.itemOrd]
    | cons y b => simp only [List.map_cons, List.map_nil, W.keyToksAll]; rw [PyProof.Rows.lex_diff (by simp)]; simp [ltN, lexI]; rfl
  | cons x a ih => cases b with
    | nil => simp only [List.map_cons, List.map_nil, W.keyToksAll]; rw [PyProof.Rows.lex_diff (by simp)]; simp [ltN, lexI]; rfl
    | cons y b =>
      simp only [List.map_cons, W.keyToksAll, W.keyToks, List.cons_append, List.nil_append]
      rw [PyProof.Rows.lex_self, ltN_cons]
      by_cases e : x = y
      · subst e; rw [PyProof.Rows.lex_self, if_pos rfl]; exact ih b
      · rw [PyProof.Rows.lex_diff (by simpa using fun h : (x : Int) = y => e (by omega)), if_neg e]
        show decide ((x : Int) < y) = _
        exact decide_eq_decide.mpr (by omega)
end EV.Sp
end

section
set_option autoImplicit false
set_option linter.all false
set_option maxRecDepth 100000
/-! SpP: the law's look at one row. -/
namespace EV.Sp
open PySem
/-! ### statement by statement -/
section
variable {C : EV.Ctx} {ss : Ss} {ρ : EV.Env} {Q : EV.Flow × EV.Env → Sto → Prop} {st : Sto}
theorem step_asg {i : Nat} {e : E} (v : Val) (h : ev C e ρ = ret v) (k : wp (exs C ss (ρ.set i (some v))) Q st) : wp (exs C (.cons (.asg (.nm i) e) ss) ρ) Q st := by
  rw [exs_cons, ex_asg, h, bnd_ret, bind1_nm, bnd_ret, bnd_ret, andThen_nx]; exact k
theorem step_par2 {i j : Nat} {e1 e2 : E} (v1 v2 : Val) (h1 : ev C e1 ρ = ret v1) (h2 : ev C e2 ρ = ret v2) (k : wp (exs C ss ((ρ.set i (some v1)).set j (some v2))) Q st) : wp (exs C (.cons (.par [i, j] (.cons e1 (.cons e2 .nil))) ss) ρ) Q st := by
  rw [exs_cons, ex_par, evs_cons, h1, bnd_ret, evs_cons, h2, bnd_ret, evs_nil, bnd_ret, bnd_ret, bnd_ret]
  simpa using k
theorem step_no {c : E} {a : Ss} (h : ev C c ρ = ret (.d (.bool false))) (k : wp (exs C ss ρ) Q st) : wp (exs C (.cons (.ife c a .nil) ss) ρ) Q st := by
  rw [exs_cons, ex_ife, h, bnd_ret, asBool_b, bnd_ret, if_neg (by decide), exs_nil, bnd_ret, andThen_nx]; exact k
theorem step_exp {e : E} (v : Val) (h : ev C e ρ = ret v) (k : wp (exs C ss ρ) Q st) : wp (exs C (.cons (.exp e) ss) ρ) Q st := by
  rw [exs_cons, ex_exp, h, bnd_ret, bnd_ret, andThen_nx]; exact k
theorem step_ret {e : E} (v : Val) (h : ev C e ρ = ret v) (k : Q (.ret v, ρ) st) : wp (exs C (.cons (.ret e) ss) ρ) Q st := by
  rw [exs_cons, ex_ret, h, bnd_ret, bnd_ret, andThen_ret, wp_ret]; exact k
/-- a name set by what draws -/
theorem step_asg_wp {i : Nat} {e : E} (h : wp (ev C e ρ) (fun v s => wp (exs C ss (ρ.set i (some v))) Q s) st) : wp (exs C (.cons (.asg (.nm i) e) ss) ρ) Q st := by
  rw [exs_cons, ex_asg, wp_bnd, wp_bnd]
  refine h.mono fun v s k => ?_
  rw [bind1_nm, bnd_ret, wp_ret, andThen_nx]; exact k
theorem step_for {δ : Type} {t : T} {it : Ir} {b : Ss} {gs : List Nat} {enc : δ → Val} {xs : List δ} (h : evi C it ρ = ret (xs.map enc, gs)) (k : wp (floop gs (turnf C t b) (xs.map enc) ρ) (fun q s => wp (andThen C ss q) Q s) st) : wp (exs C (.cons (.for_ t it b) ss) ρ) Q st := by
  rw [exs_cons, ex_for, h, bnd_ret, wp_bnd]; exact k
end
/-- _law_all_sequences(some): 0 some 1 found 2 spot 3 longer 4 own 5 place -/
def b_law_all_sequences : Ss :=
 (.cons (.asg (.nm 1) (.lst 0 (.cons (.tup .nil) .nil)))
 (.cons (.for_ (.nm 2) (.rg1 (.b1 .len 0 (.var 0)))
 (.cons (.asg (.nm 3) (.lst 0 .nil))
 (.cons (.for_ (.nm 4) (.val (.var 1))
 (.cons (.asg (.nm 3) (.bin .Add (.var 3) (.lc1 0 (.bin .Add (.var 4) (.tup (.cons (.var 5) .nil))) (.nm 5) (.val (.var 0)) (.cons (.cmp .NotIn (.var 5) (.var 4)) .nil) [5])))
 .nil))
 (.cons (.asg (.nm 1) (.var 3))
 .nil))))
 (.cons (.ret (.var 1))
 .nil)))
noncomputable def c_law_all_sequences : Ctx := ⟨[], []⟩
noncomputable def f_law_all_sequences : Fn := den c_law_all_sequences 1 6 false b_law_all_sequences
/-- all sequences of k of these -/
def allS (sp : List Nat) : Nat → List (List Nat)
  | 0 => [[]]
  | k + 1 => (allS sp k).flatMap fun o => (sp.filter fun x => !decide (x ∈ o)).map fun x => o ++ [x]
theorem allS_len (sp : List Nat) (k : Nat) : (allS sp k).length ≤ sp.length ^ k := by
  induction k with
  | zero => simp [allS]
  | succ k ih =>
    have : ∀ l : List (List Nat), (l.flatMap fun o => (sp.filter fun x => !decide (x ∈ o)).map fun x => o ++ [x]).length ≤ l.length * sp.length := by
      intro l
      induction l with
      | nil => simp
      | cons o l ih2 =>
        simp only [List.flatMap_cons, List.length_append, List.length_map, List.length_cons, Nat.succ_mul]
        have := List.length_filter_le (fun x => !decide (x ∈ o)) sp
        omega
    exact Nat.le_trans (this _) (by rw [Nat.pow_succ]; exact Nat.mul_le_mul_right _ ih)
theorem allS_mem {sp : List Nat} {k : Nat} {o : List Nat} (h : o ∈ allS sp k) : o.length = k ∧ o.Nodup ∧ ∀ x ∈ o, x ∈ sp := by
  induction k generalizing o with
  | zero => simp [allS] at h; subst h; simp
  | succ k ih =>
    simp only [allS, List.mem_flatMap, List.mem_map, List.mem_filter] at h
    obtain ⟨o', ho, x, ⟨hx, hn⟩, rfl⟩ := h
    obtain ⟨a, b, c⟩ := ih ho
    have hn' : x ∉ o' := by simpa using hn
    refine ⟨by simp [a], ?_, fun y hy => ?_⟩
    · refine List.nodup_append.mpr ⟨b, by simp, fun y hy z hz e => ?_⟩
      rw [List.mem_singleton.mp hz] at e
      exact hn' (e ▸ hy)
    · rcases List.mem_append.mp hy with hy | hy
      · exact c y hy
      · rw [List.mem_singleton.mp hy]; exact hx
theorem memD_nats (x : Nat) (l : List Nat) : memD (.int (x : Nat)) (l.map fun n => .int (n : Nat)) = decide (x ∈ l) := by
  induction l with
  | nil => rfl
  | cons y l ih =>
    unfold memD at ih ⊢
    simp only [List.map_cons, List.any_cons, ih, eqv_int, List.mem_cons]
    by_cases h : x = y
    · simp [h]
    · have e : ¬((y : Int) = x) := by omega
      simp [h, e]
theorem notin_Nt (x : Nat) (l : List Nat) : cmpD .NotIn (.int (x : Nat)) (Nt l) = some (!decide (x ∈ l)) := by
  have := shaped_Nt l
  unfold Nt at this ⊢
  rw [cmp_notin_tuple (shaped_int _) this, memD_nats]
theorem s_law_all_sequences {sp : List Nat} (h : sp.length ≤ 4) : f_law_all_sequences [.d (Nt sp)] = ret (.d (.list ((allS sp sp.length).map Nt))) := by
  refine den_ev (ρ0 := [some (.d (Nt sp)), none, none, none, none, none]) rfl rfl fun st => ?_
  have hb : ∀ k, k ≤ sp.length → (allS sp k).length ≤ 256 := fun k hk => Nat.le_trans (allS_len sp k) (Nat.le_trans (Nat.pow_le_pow_left h k) (Nat.le_trans (Nat.pow_le_pow_right (by decide) (show k ≤ 4 by omega)) (by decide)))
  refine step_asg (.d (.list ([[]].map Nt))) (by simp [Nt]) ?_
  simp only [List.set_cons_succ, List.set_cons_zero]
  refine step_for (xs := List.range sp.length) (enc := fun i : Nat => .d (.int i)) (gs := []) (by simp [rng_k (n := sp.length) (by omega)]) ?_
  refine wp_floop (fun rest ρ s => s = st ∧ ∃ pre w1 w2 w3, List.range sp.length = pre ++ rest ∧ ρ = [some (.d (Nt sp)), some (.d (.list ((allS sp pre.length).map Nt))), w1, w2, w3, none]) ⟨rfl, [], none, none, none, rfl, rfl⟩ ?_ ?_
  · rintro x rest _ st ⟨rfl, pre, w1, w2, w3, e, rfl⟩
    refine ⟨held_nil, ?_⟩
    have hpl : pre.length + 1 ≤ sp.length := by
      have := congrArg List.length e
      simp at this; omega
    simp only [turnf_app, bind1_nm, bnd_ret, List.set_cons_succ, List.set_cons_zero]
    refine step_asg (.d (.list ([].map Nt))) (by simp) ?_
    simp only [List.set_cons_succ, List.set_cons_zero]
    refine step_for (xs := allS sp pre.length) (enc := fun o => .d (Nt o)) (gs := []) (by simp [Function.comp_def]) ?_
    refine wp_floop (fun rest2 ρ s => s = st ∧ ∃ pre2 w3, allS sp pre.length = pre2 ++ rest2 ∧ ρ = [some (.d (Nt sp)), some (.d (.list ((allS sp pre.length).map Nt))), some (.d (.int x)), some (.d (.list ((pre2.flatMap fun o => (sp.filter fun x => !decide (x ∈ o)).map fun x => o ++ [x]).map Nt))), w3, none]) ⟨rfl, [], w3, rfl, rfl⟩ ?_ ?_
    · rintro o rest2 _ _ ⟨rfl, pre2, w3, e3, rfl⟩
      refine ⟨held_nil, ?_⟩
      have ho : o ∈ allS sp pre.length := by rw [e3]; simp
      have hol := (allS_mem ho).1
      have hf : fits (o.length + 1) = true := fits_k (by omega)
      have h1 : ∀ w, comp [] (turn1 c_law_all_sequences (.nm 5) [5] (.cons (.cmp .NotIn (.var 5) (.var 4)) .nil) (.bin .Add (.var 4) (.tup (.cons (.var 5) .nil))) [some (.d (Nt sp)), some (.d (.list ((allS sp pre.length).map Nt))), some (.d (.int x)), w, some (.d (Nt o)), none]) (sp.map fun n => .d (.int (n : Nat))) = ret ((sp.filter fun x => !decide (x ∈ o)).map fun x => Nt (o ++ [x])) := by
        intro w
        refine lc_filter _ _ fun y hy => ?_
        simp [notin_Nt]
        by_cases hm : y ∈ o
        · simp [hm]
        · simp [hm, Nt, hf]
      have lb : ∀ l : List (List Nat), (l.flatMap fun o => (sp.filter fun x => !decide (x ∈ o)).map fun x => o ++ [x]).length ≤ l.length * 4 := by
        intro l
        induction l with
        | nil => simp
        | cons o l ih2 =>
          simp only [List.flatMap_cons, List.length_append, List.length_map, List.length_cons, Nat.succ_mul]
          have := List.length_filter_le (fun x => !decide (x ∈ o)) sp
          omega
      have lp : pre2.length + 1 ≤ 256 := by
        have := congrArg List.length e3
        have := hb pre.length (by omega)
        simp at this ⊢
        rw [List.length_append, List.length_cons] at *
        omega
      have lf := List.length_filter_le (fun x => !decide (x ∈ o)) sp
      have hf2 : fits (((pre2.flatMap fun o => (sp.filter fun x => !decide (x ∈ o)).map fun x => o ++ [x]).map Nt).length + ((sp.filter fun x => !decide (x ∈ o)).map fun x => Nt (o ++ [x])).length) = true := by
        rw [List.length_map, List.length_map]
        exact fits_of (Nat.le_trans (m := 2000) (by have := lb pre2; omega) (by decide))
      simp only [turnf_app, bind1_nm, bnd_ret, List.set_cons_succ, List.set_cons_zero]
      refine step_asg (.d (.list ((pre2.flatMap fun o => (sp.filter fun x => !decide (x ∈ o)).map fun x => o ++ [x]).map Nt ++ (sp.filter fun x => !decide (x ∈ o)).map fun x => Nt (o ++ [x])))) ?_ ?_
      · simp only [ev_bin, ev_var, lookEnv_s, lookEnv_z, bnd_ret, ev_lc1, evi_val, itemsV_d, items_Nt, opt_some, List.map_map, Function.comp_def, h1, fresh_z, dat2_d, add_list, hf2, if_true]
      · simp only [List.set_cons_succ, List.set_cons_zero, exs_nil, wp_ret]
        have hE : (pre2.flatMap fun o => (sp.filter fun x => !decide (x ∈ o)).map fun x => o ++ [x]).map Nt ++ ((sp.filter fun x => !decide (x ∈ o)).map fun x => Nt (o ++ [x])) = ((pre2 ++ [o]).flatMap fun o => (sp.filter fun x => !decide (x ∈ o)).map fun x => o ++ [x]).map Nt := by
          rw [List.flatMap_append, List.map_append]
          congr 1
          simp only [List.flatMap_cons, List.flatMap_nil, List.append_nil, List.map_map]
          rfl
        exact ⟨trivial, pre2 ++ [o], _, by simp [e3], by rw [hE]⟩
    · rintro _ _ ⟨rfl, pre2, w3, e3, rfl⟩
      rw [List.append_nil] at e3
      refine ⟨held_nil, ?_⟩
      simp only [andThen_nx]
      refine step_asg (.d (.list ((allS sp (pre.length + 1)).map Nt))) (by simp only [ev_var, lookEnv_s, lookEnv_z, allS, e3]) ?_
      simp only [List.set_cons_succ, List.set_cons_zero, exs_nil, wp_ret]
      exact ⟨trivial, pre ++ [x], _, _, _, by simp [e], by rw [List.length_append, List.length_singleton]⟩
  · rintro _ _ ⟨rfl, pre, w1, w2, w3, e, rfl⟩
    rw [List.append_nil] at e
    have : pre.length = sp.length := by rw [← e]; simp
    refine ⟨held_nil, ?_⟩
    simp [this]
end EV.Sp
end

section
set_option autoImplicit false
set_option linter.all false
set_option maxRecDepth 100000
set_option exponentiation.threshold 10000
/-! SpW: the law's look at one row. -/
namespace EV.Sp
open PySem
/-- _law_row_right(draws, table, speakers, event, row): 0 draws 1 table 2 speakers 3 event 4 row 5 rows 6 told 7 still 8 beside 9 turned_told 10 wider 11 later 12 count 13 every 14 whole 15 number 16 sequence 17 other -/
def b_law_row_right : Ss :=
 (.cons (.asg (.nm 5) (.call 8 (.cons (.idx (.var 1) (.con (.int 1))) .nil)))
 (.cons (.par [6, 7] (.cons (.call 4 (.cons (.var 1) (.cons (.var 2) (.cons (.var 3) (.cons (.var 4) .nil))))) (.cons (.call 3 (.cons (.var 1) (.cons (.var 2) (.cons (.var 3) (.cons (.var 4) .nil))))) .nil)))
 (.cons (.asg (.nm 8) (.b1 .tuple 0 (.lc1 0 (.var 17) (.nm 17) (.val (.var 5)) (.cons (.cmp .NotIn (.var 17) (.var 3)) .nil) [17])))
 (.cons (.asg (.nm 9) (.b1 .tuple 0 (.lc1 0 (.call 7 (.cons (.tup (.cons (.con (.int 1)) (.cons (.con (.int 1)) .nil))) (.cons (.var 15) .nil))) (.nm 15) (.val (.var 6)) .nil [15])))
 (.cons (.ife (.not (.call 5 (.cons (.lst 0 (.cons (.call 4 (.cons (.var 1) (.cons (.var 2) (.cons (.var 8) (.cons (.var 4) .nil))))) (.cons (.call 3 (.cons (.var 1) (.cons (.var 2) (.cons (.var 8) (.cons (.var 4) .nil))))) .nil))) (.cons (.lst 0 (.cons (.var 9) (.cons (.var 7) .nil))) .nil))))
 (.cons (.ret (.con (.bool false)))
 .nil)
 .nil)
 (.cons (.asg (.nm 10) (.b1 .tuple 0 (.lc1 0 (.var 17) (.nm 17) (.val (.var 5)) (.cons (.or (.cons (.cmp .In (.var 17) (.var 3)) (.cons (.and (.cons (.cmp .Eq (.idx (.idx (.var 1) (.con (.int 2))) (.var 17)) (.tup (.cons (.con (.int 0)) (.cons (.con (.int 1)) .nil)))) (.cons (.cmp .Eq (.call 6 (.cons (.var 0) (.cons (.con (.int 2)) .nil))) (.con (.int 0))) .nil))) .nil))) .nil) [17])))
 (.cons (.ife (.not (.call 5 (.cons (.lst 0 (.cons (.call 4 (.cons (.var 1) (.cons (.var 2) (.cons (.var 10) (.cons (.var 4) .nil))))) (.cons (.call 3 (.cons (.var 1) (.cons (.var 2) (.cons (.var 10) (.cons (.var 4) .nil))))) .nil))) (.cons (.lst 0 (.cons (.var 6) (.cons (.var 7) .nil))) .nil))))
 (.cons (.ret (.con (.bool false)))
 .nil)
 .nil)
 (.cons (.par [11, 12] (.cons (.call 2 (.cons (.var 1) (.cons (.var 7) .nil))) (.cons (.b1 .len 0 (.var 2)) .nil)))
 (.cons (.ife (.not (.call 5 (.cons (.lst 0 (.cons (.call 4 (.cons (.var 11) (.cons (.var 2) (.cons (.var 3) (.cons (.var 4) .nil))))) (.cons (.call 3 (.cons (.var 11) (.cons (.var 2) (.cons (.var 3) (.cons (.var 4) .nil))))) .nil))) (.cons (.lst 0 (.cons (.bin .Mult (.tup (.cons (.idx (.var 6) (.neg (.con (.int 1)))) .nil)) (.var 12)) (.cons (.var 7) .nil))) .nil))))
 (.cons (.ret (.con (.bool false)))
 .nil)
 .nil)
 (.cons (.ife (.cmp .NotEq (.call 1 (.cons (.var 11) (.cons (.var 3) .nil))) (.idx (.var 6) (.neg (.con (.int 1)))))
 (.cons (.ret (.con (.bool false)))
 .nil)
 .nil)
 (.cons (.asg (.nm 13) (.b1 .tuple 0 (.lc1 0 (.var 17) (.nm 17) (.val (.var 5)) (.cons (.cmp .NotEq (.idx (.idx (.var 1) (.con (.int 2))) (.var 17)) (.tup (.cons (.con (.int 0)) (.cons (.con (.int 1)) .nil)))) .nil) [17])))
 (.cons (.for_ (.tp [14, 15]) (.val (.lst 0 (.cons (.tup (.cons (.b1 .tuple 0 (.var 5)) (.cons (.tup (.cons (.con (.int 1)) (.cons (.con (.int 1)) .nil))) .nil))) (.cons (.tup (.cons (.tup .nil) (.cons (.tup (.cons (.con (.int 0)) (.cons (.con (.int 1)) .nil))) .nil))) .nil))))
 (.cons (.ife (.not (.call 5 (.cons (.lst 0 (.cons (.call 4 (.cons (.var 1) (.cons (.var 2) (.cons (.var 14) (.cons (.var 4) .nil))))) (.cons (.call 3 (.cons (.var 1) (.cons (.var 2) (.cons (.var 14) (.cons (.var 4) .nil))))) .nil))) (.cons (.lst 0 (.cons (.bin .Mult (.tup (.cons (.var 15) .nil)) (.var 12)) (.cons (.var 13) .nil))) .nil))))
 (.cons (.ret (.con (.bool false)))
 .nil)
 .nil)
 .nil))
 (.cons (.for_ (.nm 16) (.val (.call 0 (.cons (.var 2) .nil)))
 (.cons (.asg (.nm 17) (.call 4 (.cons (.var 1) (.cons (.var 16) (.cons (.var 3) (.cons (.var 4) .nil))))))
 (.cons (.ife (.or (.cons (.cmp .NotEq (.lc1 0 (.con (.int 1)) (.nm 15) (.val (.sli (.var 17) (.some (.neg (.var 12))) .none)) (.cons (.cmp .NotEq (.var 15) (.idx (.var 17) (.neg (.con (.int 1))))) .nil) [15]) (.lst 0 .nil)) (.cons (.cmp .NotEq (.call 1 (.cons (.call 2 (.cons (.var 1) (.cons (.call 3 (.cons (.var 1) (.cons (.var 16) (.cons (.var 3) (.cons (.var 4) .nil))))) .nil))) (.cons (.var 3) .nil))) (.idx (.var 17) (.neg (.con (.int 1))))) .nil)))
 (.cons (.ret (.con (.bool false)))
 .nil)
 .nil)
 .nil)))
 (.cons (.ret (.con (.bool true)))
 .nil))))))))))))))
noncomputable def c_law_row_right : Ctx := ⟨[("_law_all_sequences", f_law_all_sequences), ("chance_of", f_chance_of), ("behind", f_behind), ("left_open", f_left_open), ("talk", f_talk), ("_law_same", f_law_same), ("_law_draw", f_law_draw), ("_law_minus", f_law_minus), ("_law_rows_of", f_law_rows_of)], []⟩
noncomputable def f_law_row_right : Fn := den c_law_row_right 5 18 false b_law_row_right
theorem notin_Ev {sizes : List Nat} {c : Row → Bool} {r : Row} (h : r ∈ rows sizes) : cmpD .NotIn (Nt r) (Ev sizes c) = some (!c r) := by
  unfold Ev; rw [cmp_notin_tuple (shaped_Nt r) (shaped_Nts _), mem_Nt]
  simp [List.mem_filter, h]
/-- a comprehension whose conditions draw, and what is known of them -/
theorem wp_comp_test {δ : Type} {n g b : Nat} {st : Sto} {f : Val → M (List Dt)} {enc : δ → Val} {xs : List δ} (K : Nat) (enc2 : δ → Dt) (A B : δ → Prop) (d : DS n g (b + K * xs.length) st)
    (h : ∀ x ∈ xs, ∀ b s, DS n g (b + K) s → wp (f (enc x)) (fun ys s' => ((ys = [enc2 x] ∧ A x) ∨ (ys = [] ∧ B x)) ∧ Dr n g b s s') s) :
    wp (comp [] f (xs.map enc)) (fun ys s => (∃ zs : List δ, ys = zs.map enc2 ∧ zs.Sublist xs ∧ (∀ z ∈ zs, A z) ∧ ∀ x ∈ xs, x ∈ zs ∨ B x) ∧ Dr n g b st s) st := by
  refine wp_comp (fun rest ys s => Dr n g (b + K * rest.length) st s ∧ ∃ (pre zs : List δ), xs = pre ++ rest ∧ ys = zs.map enc2 ∧ zs.Sublist pre ∧ (∀ z ∈ zs, A z) ∧ ∀ x ∈ pre, x ∈ zs ∨ B x) ⟨Dr.refl d, [], [], rfl, rfl, .slnil, by simp, by simp⟩ ?_ ?_
  · rintro x rest _ s ⟨dr, pre, zs, e, rfl, a, h1, h2⟩
    refine ⟨held_nil, ?_⟩
    have hd : DS n g ((b + K * rest.length) + K) s := dr.2.1.mono (by simp only [List.length_cons, Nat.mul_succ]; omega)
    refine (h x (by rw [e]; simp) _ s hd).mono ?_
    rintro _ s' ⟨⟨rfl, ha⟩ | ⟨rfl, hb⟩, dr'⟩
    · refine ⟨dr.trans dr', pre ++ [x], zs ++ [x], by simp [e], by simp, a.append (List.Sublist.refl _), fun z hz => ?_, fun y hy => ?_⟩
      · rcases List.mem_append.mp hz with hz | hz
        · exact h1 z hz
        · rw [List.mem_singleton.mp hz]; exact ha
      · rcases List.mem_append.mp hy with hy | hy
        · exact (h2 y hy).imp (fun q => by simp [q]) id
        · exact .inl (by simp [List.mem_singleton.mp hy])
    · refine ⟨dr.trans dr', pre ++ [x], zs, by simp [e], by simp, a.trans (List.sublist_append_left _ _), h1, fun y hy => ?_⟩
      rcases List.mem_append.mp hy with hy | hy
      · exact h2 y hy
      · rw [List.mem_singleton.mp hy]; exact .inr hb
  · rintro _ s ⟨dr, pre, zs, e, rfl, a, h1, h2⟩
    rw [List.append_nil] at e
    subst e
    exact ⟨held_nil, ⟨zs, rfl, a, h1, h2⟩, dr.mono (by simp)⟩
theorem rep_R (q : Rat) (k : Nat) (h : 1 ≤ k ∧ k ≤ 4) : binD .Mult (.tuple [R q]) (.int (k : Nat)) = some (Rt (List.replicate k q)) := by
  rw [mul_tuple]
  by_cases h1 : k = 1
  · subst h1; rfl
  · have a1 : (2 : Int) ≤ k := by omega
    have a2 : (k : Int) ≤ 1000 := by omega
    simp [a1, a2, Rt]
theorem last_Rt {l : List Rat} {c : Rat} (hl : 0 < l.length) (h : l[l.length - 1]? = some c) : idxD (Rt l) (.int (-1)) = some (R c) := by
  unfold Rt
  rw [idx_tuple, at_m1, List.getLast?_eq_getElem?, List.length_map, List.getElem?_map, h]; rfl
@[simp] theorem items_Rt (qs : List Rat) : itemsD (Rt qs) = some (qs.map R) := by unfold Rt; rw [items_tuple]
theorem s_law_row_right {n g b : Nat} {st : Sto} {sizes sp : List Nat} {p : Row → Rat} {ev : Row → Bool} {row : Row} (h : TbOk sizes p) (hsp : SpOk sizes sp) (hr : row ∈ rows sizes) (h0 : p row ≠ 0) (d : DS n g (b + 100) st) :
    wp (f_law_row_right [.ref n, .d (Tb sizes p), .d (Nt sp), .d (Ev sizes ev), .d (Nt row)]) (fun v s => v = .d (.bool true) ∧ Dr n g b st s) st := by
  obtain ⟨hown, c, he⟩ := fin_end (ev := ev) h hsp hr h0
  have tl := fin_told (ev := ev) (sp := sp) (row := row) h
  have k0 : 1 ≤ sp.length := List.length_pos_iff.mpr hsp.1
  have k4 := hsp.2.2.2
  have hlast : idxD (Rt (fin sizes p ev sp row).told) (.int (-1)) = some (R c) := last_Rt (by have := he.len; omega) (by have := he.last 0 (by omega); simpa using this)
  have hl := h.cond he.nz
  refine wp_den (ρ0 := [some (.ref n), some (.d (Tb sizes p)), some (.d (Nt sp)), some (.d (Ev sizes ev)), some (.d (Nt row)), none, none, none, none, none, none, none, none, none, none, none, none, none]) rfl rfl ?_
  unfold b_law_row_right
  refine step_asg (.d (.list ((rows sizes).map Nt))) (by simp [c_law_row_right, s_law_rows_of h.sz]) ?_
  simp only [List.set_cons_succ, List.set_cons_zero]
  refine step_par2 (.d (Rt (fin sizes p ev sp row).told)) (.d (Ev sizes (fin sizes p ev sp row).still)) (by simp [c_law_row_right, s_talk h hsp hr h0]) (by simp [c_law_row_right, s_left_open h hsp hr h0]) ?_
  simp only [List.set_cons_succ, List.set_cons_zero]
  refine step_asg (.d (Ev sizes fun r => !ev r)) ?_ ?_
  · simp only [ev_b1, ev_lc1, evi_val, ev_var, lookEnv_s, lookEnv_z, bnd_ret, bnd_bnd, itemsV_d, items_list, opt_some, List.map_map, Function.comp_def]
    rw [lc_filter (fun r => !ev r) Nt fun r hr => ?_]
    · simp [Ev]
    · simp [notin_Ev hr]
  simp only [List.set_cons_succ, List.set_cons_zero]
  refine step_asg (.d (Rt ((fin sizes p ev sp row).told.map fun x => 1 - x))) ?_ ?_
  · simp only [ev_b1, ev_lc1, evi_val, ev_var, lookEnv_s, lookEnv_z, bnd_ret, bnd_bnd, itemsV_d, items_Rt, opt_some, List.map_map, Function.comp_def]
    rw [lc_map (fun x => R (1 - x)) fun x hx => ?_]
    · simp [Rt, Function.comp_def]
    · have := tl.1 x hx
      simp [c_law_row_right, R1, s_law_minus (Sm_one.mono (by decide)) this]
  simp only [List.set_cons_succ, List.set_cons_zero]
  obtain ⟨t1, s1⟩ := fin_compl (ev := ev) (sp := sp) h hr h0
  refine step_no (by
    have := same_two h.sz t1 s1 (by rw [t1, List.length_map]; exact tl.2)
    simp [c_law_row_right, s_talk h hsp hr h0, s_left_open h hsp hr h0, this]) ?_
  refine step_asg_wp ?_
  simp only [ev_b1, ev_lc1, evi_val, ev_var, lookEnv_s, lookEnv_z, bnd_ret, bnd_bnd, itemsV_d, items_list, opt_some, List.map_map, Function.comp_def, wp_bnd]
  have hl36 : (rows sizes).length ≤ 36 := by rw [len_rows]; exact h.sz.2.2.2
  refine (wp_comp_test 1 Nt (fun r => ev r = true ∨ p r = 0) (fun r => ev r = false) (b := b) (d.mono (by omega)) fun r hr' b s ds => ?_).mono ?_
  · simp [in_Ev hr', idx_Dp hr']
    cases hev : ev r
    · simp [R0]
      by_cases hp : p r = 0
      · simp [hp, c_law_row_right]
        refine (s_law_draw (r := 2) ds (by decide) (by decide)).mono ?_
        rintro _ s' ⟨k, hk, rfl, dr⟩
        simp
        exact dr
      · simp [hp]
        exact Dr.refl (ds.mono (by omega))
    · simp
      exact Dr.refl (ds.mono (by omega))
  rintro _ s2 ⟨⟨zs, rfl, sub, hA, hB⟩, dr⟩
  have ew : (.tuple (zs.map Nt) : Dt) = Ev sizes fun r => decide (r ∈ zs) := by unfold Ev; rw [← sub_filter sub (rows_nodup sizes)]
  have hw : ∀ r ∈ rows sizes, p r ≠ 0 → (fun r => decide (r ∈ zs)) r = ev r := fun r hr hp => by
    by_cases hz : r ∈ zs
    · rcases hA r hz with e | e
      · simp [hz, e]
      · exact absurd e hp
    · rcases hB r hr with e | e
      · exact absurd e hz
      · simp [hz, e]
  simp only [fresh_z, wp_ret, dat_d, tuple_list, opt_some, bnd_ret, ew, List.set_cons_succ, List.set_cons_zero, wp_opt_some]
  generalize (fun r => decide (r ∈ zs)) = wd at *
  obtain ⟨t2, s2'⟩ := fin_wider (ev := ev) (sp := sp) hr h0 hw
  refine step_no (by
    have := same_two h.sz t2 s2' (by rw [t2]; exact tl.2)
    simp [c_law_row_right, s_talk h hsp hr h0, s_left_open h hsp hr h0, this]) ?_
  refine step_par2 (.d (Tb sizes (cond sizes p (fin sizes p ev sp row).still))) (.d (.int (sp.length : Nat))) (by simp [c_law_row_right, s_behind h he.nz]) (by simp) ?_
  simp only [List.set_cons_succ, List.set_cons_zero]
  obtain ⟨s3, t3⟩ := fin_later (ev := ev) hsp hr hown he
  have hcr : cond sizes p (fin sizes p ev sp row).still row ≠ 0 := cond_row hown h0 he.nz
  refine step_no (by
    have := same_two h.sz t3 s3 (by rw [t3, List.length_replicate]; omega)
    simp [c_law_row_right, s_talk hl hsp hr hcr, s_left_open hl hsp hr hcr, hlast, rep_R c sp.length ⟨k0, k4⟩, this]) ?_
  refine step_no (by
    simp [c_law_row_right, s_chance_of hl, hlast, later_chance he]) ?_
  refine step_asg (.d (Ev sizes (pos p))) ?_ ?_
  · simp only [ev_b1, ev_lc1, evi_val, ev_var, lookEnv_s, lookEnv_z, bnd_ret, bnd_bnd, itemsV_d, items_list, opt_some, List.map_map, Function.comp_def]
    rw [lc_filter (pos p) Nt fun r hr => ?_]
    · simp [Ev]
    · simp [idx_Dp hr, R0, pos]
  simp only [List.set_cons_succ, List.set_cons_zero]
  have eT : (.tuple ((rows sizes).map Nt) : Dt) = Ev sizes fun _ => true := by unfold Ev; rw [List.filter_eq_self.mpr (by simp)]
  have eF : (.tuple [] : Dt) = Ev sizes fun _ => false := by unfold Ev; simp
  refine step_for (xs := [((fun _ => true : Row → Bool), (1 : Rat)), ((fun _ => false : Row → Bool), (0 : Rat))]) (enc := fun q => .d (.tuple [Ev sizes q.1, R q.2])) (gs := []) (by simp [eT, eF, R0, R1]) ?_
  obtain ⟨s4, t4⟩ := fin_whole (sp := sp) h hsp hr h0
  obtain ⟨s5, t5⟩ := fin_none (sizes := sizes) (sp := sp) hsp hr h0
  refine wp_floop (fun rest ρ s => s = s2 ∧ (∀ q ∈ rest, Eqr sizes (fin sizes p q.1 sp row).still (pos p) ∧ (fin sizes p q.1 sp row).told = List.replicate sp.length q.2) ∧ ∃ w1 w2, ρ = [some (.ref n), some (.d (Tb sizes p)), some (.d (Nt sp)), some (.d (Ev sizes ev)), some (.d (Nt row)), some (.d (.list ((rows sizes).map Nt))), some (.d (Rt (fin sizes p ev sp row).told)), some (.d (Ev sizes (fin sizes p ev sp row).still)), some (.d (Ev sizes fun r => !ev r)), some (.d (Rt ((fin sizes p ev sp row).told.map fun x => 1 - x))), some (.d (Ev sizes wd)), some (.d (Tb sizes (cond sizes p (fin sizes p ev sp row).still))), some (.d (.int (sp.length : Nat))), some (.d (Ev sizes (pos p))), w1, w2, none, none])
    ⟨rfl, by
      intro q hq
      simp only [List.mem_cons, List.not_mem_nil, or_false] at hq
      rcases hq with rfl | rfl
      · exact ⟨s4, t4⟩
      · exact ⟨s5, t5⟩, none, none, rfl⟩ ?_ ?_
  · rintro q rest _ _ ⟨rfl, hq, w1, w2, rfl⟩
    refine ⟨held_nil, ?_⟩
    obtain ⟨sq, tq⟩ := hq q (by simp)
    simp only [turnf_app, bind1_tp, List.length_cons, List.length_nil, if_true, setD_cons, setD_nil, bnd_ret, List.set_cons_succ, List.set_cons_zero]
    refine step_no (by
      have := same_two h.sz tq sq (by rw [tq, List.length_replicate]; omega)
      simp [c_law_row_right, s_talk h hsp hr h0, s_left_open h hsp hr h0, rep_R q.2 sp.length ⟨k0, k4⟩, this]) ?_
    simp only [exs_nil, wp_ret]
    exact ⟨trivial, fun q' hq' => hq q' (by simp [hq']), _, _, rfl⟩
  rintro _ s2 ⟨rfl, -, w1, w2, rfl⟩
  refine ⟨held_nil, ?_⟩
  simp only [andThen_nx]
  refine step_for (xs := allS sp sp.length) (enc := fun o => .d (Nt o)) (gs := []) (by simp [c_law_row_right, s_law_all_sequences k4, Function.comp_def]) ?_
  refine wp_floop (fun rest ρ s => s = s2 ∧ (∀ o ∈ rest, o ∈ allS sp sp.length) ∧ ∃ w2 w3 w4, ρ = [some (.ref n), some (.d (Tb sizes p)), some (.d (Nt sp)), some (.d (Ev sizes ev)), some (.d (Nt row)), some (.d (.list ((rows sizes).map Nt))), some (.d (Rt (fin sizes p ev sp row).told)), some (.d (Ev sizes (fin sizes p ev sp row).still)), some (.d (Ev sizes fun r => !ev r)), some (.d (Rt ((fin sizes p ev sp row).told.map fun x => 1 - x))), some (.d (Ev sizes wd)), some (.d (Tb sizes (cond sizes p (fin sizes p ev sp row).still))), some (.d (.int (sp.length : Nat))), some (.d (Ev sizes (pos p))), w1, w2, w3, w4])
    ⟨rfl, fun o ho => ho, _, _, _, rfl⟩ ?_ ?_
  · rintro o rest _ _ ⟨rfl, hq, w2, w3, w4, rfl⟩
    refine ⟨held_nil, ?_⟩
    obtain ⟨ol, od, om⟩ := allS_mem (hq o (by simp))
    have hso : SpOk sizes o := ⟨fun z => by rw [z] at ol; simp at ol; omega, fun x hx => hsp.2.1 x (om x hx), od, by omega⟩
    obtain ⟨hown', c', he'⟩ := fin_end (ev := ev) h hso hr h0
    have hlo := he'.len
    have hlast' : idxD (Rt (fin sizes p ev o row).told) (.int (-1)) = some (R c') := last_Rt (by omega) (by have := he'.last 0 (by omega); simpa using this)
    have hl' := h.cond he'.nz
    have hsl : sliD (Rt (fin sizes p ev o row).told) (some (-(sp.length : Int))) none = some (Rt ((fin sizes p ev o row).told.drop ((fin sizes p ev o row).told.length - sp.length))) := by
      unfold Rt
      rw [sli_tuple, cut_last _ sp.length (by omega) (by rw [List.length_map]; omega), List.length_map, List.map_drop]
    simp only [turnf_app, bind1_nm, bnd_ret, List.set_cons_succ, List.set_cons_zero]
    refine step_asg (.d (Rt (fin sizes p ev o row).told)) (by simp [c_law_row_right, s_talk h hso hr h0]) ?_
    simp only [List.set_cons_succ, List.set_cons_zero]
    have hall : ∀ x ∈ (fin sizes p ev o row).told.drop ((fin sizes p ev o row).told.length - sp.length), x = c' := fun x hx => by
      obtain ⟨i, hi, e⟩ := List.mem_iff_getElem.mp hx
      rw [List.length_drop] at hi
      rw [List.getElem_drop] at e
      have := he'.last ((fin sizes p ev o row).told.length - 1 - ((fin sizes p ev o row).told.length - sp.length + i)) (by omega)
      have e2 : (fin sizes p ev o row).told.length - 1 - ((fin sizes p ev o row).told.length - 1 - ((fin sizes p ev o row).told.length - sp.length + i)) = (fin sizes p ev o row).told.length - sp.length + i := by omega
      rw [e2, List.getElem?_eq_getElem (by omega)] at this
      rw [← e]; exact Option.some.inj this
    have h1 : comp [] (turn1 c_law_row_right (.nm 15) [15] (.cons (.cmp .NotEq (.var 15) (.idx (.var 17) (.neg (.con (.int 1))))) .nil) (.con (.int 1)) [some (.ref n), some (.d (Tb sizes p)), some (.d (Nt sp)), some (.d (Ev sizes ev)), some (.d (Nt row)), some (.d (.list ((rows sizes).map Nt))), some (.d (Rt (fin sizes p ev sp row).told)), some (.d (Ev sizes (fin sizes p ev sp row).still)), some (.d (Ev sizes fun r => !ev r)), some (.d (Rt ((fin sizes p ev sp row).told.map fun x => 1 - x))), some (.d (Ev sizes wd)), some (.d (Tb sizes (cond sizes p (fin sizes p ev sp row).still))), some (.d (.int (sp.length : Nat))), some (.d (Ev sizes (pos p))), w1, w2, some (.d (Nt o)), some (.d (Rt (fin sizes p ev o row).told))])
        (((fin sizes p ev o row).told.drop ((fin sizes p ev o row).told.length - sp.length)).map fun x => .d (R x)) = ret [] := by
      rw [lc_filter (fun _ => false) (fun _ => .int 1) fun x hx => ?_]
      · rw [List.filter_eq_nil_iff.mpr (by simp)]; rfl
      · rw [hall x hx]
        simp [hlast']
    refine step_no ?_ ?_
    · simp only [ev_or, evd_cons, evd_nil, ev_cmp, ev_lc1, evi_val, ev_sli, ev_neg, ev_var, ev_idx, ev_con, conD_int, evo_some, evo_none, lookEnv_s, lookEnv_z, bnd_ret, bnd_bnd, pureD_d, negD_int, opt_some, dat_d, hsl, itemsV_d, items_Rt, List.map_map, Function.comp_def, h1, fresh_z, ev_lst, evs_nil, mkList_z, datas_nil, cmpV_d]
      simp [c_law_row_right, s_left_open h hso hr h0, s_behind h he'.nz, s_chance_of hl', later_chance he', hlast']
    · simp only [exs_nil, wp_ret]
      exact ⟨trivial, fun q' hq' => hq q' (by simp [hq']), _, _, _, rfl⟩
  rintro _ _ ⟨rfl, -, w2, w3, w4, rfl⟩
  refine ⟨held_nil, ?_⟩
  simp only [andThen_nx]
  refine step_ret (.d (.bool true)) (by simp) ?_
  exact left_dr dr d ⟨rfl, dr⟩
end EV.Sp
end

section
set_option autoImplicit false
set_option linter.all false
set_option maxRecDepth 100000
set_option exponentiation.threshold 10000
/-! SpY: lots of talks; the told table. -/
namespace EV.Sp
open PySem
/-- talk_lots(table, speakers, event): 0 table 1 speakers 2 event 3 found 4 row 5 told -/
def b_talk_lots : Ss :=
 (.cons (.exp (.call 2 (.cons (.var 0) (.cons (.var 1) (.cons (.var 2) .nil)))))
 (.cons (.asg (.nm 3) (.dct 1 .nil))
 (.cons (.for_ (.nm 4) (.val (.call 0 (.cons (.var 0) .nil)))
 (.cons (.asg (.nm 5) (.idx (.call 1 (.cons (.var 0) (.cons (.var 1) (.cons (.var 2) (.cons (.var 4) .nil))))) (.con (.int 0))))
 (.cons (.sub (.var 3) (.var 5) (.ife (.cmp .In (.var 5) (.var 3)) (.bin .Add (.idx (.var 3) (.var 5)) (.tup (.cons (.var 4) .nil))) (.tup (.cons (.var 4) .nil))))
 .nil)))
 (.cons (.ret (.b1 .tuple 0 (.b1 .sortedvals 0 (.var 3))))
 .nil))))
noncomputable def c_talk_lots : Ctx := ⟨[("drawn_rows", f_drawn_rows), ("talked", f_talked), ("need_talk", f_need_talk)], []⟩
noncomputable def f_talk_lots : Fn := den c_talk_lots 3 6 false b_talk_lots
theorem nks_R (qs : List Rat) : nks (qs.map R) = some (qs.map fun q => .tup [.num q.num, .num (q.den : Nat)]) := by
  induction qs with
  | nil => simp [nks]
  | cons x l ih => simp [nks, nk, R, ih]
theorem depth_R (qs : List Rat) : NestedKey.depthAll (qs.map fun q => .tup [.num q.num, .num (q.den : Nat)]) ≤ 1 := by
  induction qs with
  | nil => simp [NestedKey.depthAll]
  | cons x l ih => simp [NestedKey.depthAll, NestedKey.depth]; omega
@[simp] theorem tupKey_Rt (l : List Rat) : tupKey (Rt l) = true := by
  unfold Rt tupKey; simp only [nks_R]; have := depth_R l; exact decide_eq_true (by omega)
@[simp] theorem eqv_Rt (a b : List Rat) : PyData.eqv (Rt a) (Rt b) = decide (a = b) := by
  unfold Rt; rw [eqv_tuple]
  induction a generalizing b with
  | nil => cases b <;> simp
  | cons x a ih => cases b with
    | nil => simp
    | cons y b =>
      simp only [List.map_cons, eqvAll_cc, ih, eqv_R]
      by_cases h : x = y <;> by_cases h' : a = b <;> simp [h, h']
abbrev Grp := List (List Rat × List Row)
def insG (g : Grp) (t : List Rat) (r : Row) : Grp := if t ∈ g.map (·.1) then g.map fun q => if q.1 = t then (q.1, q.2 ++ [r]) else q else g ++ [(t, [r])]
def encG (g : Grp) : List (Dt × Dt) := g.map fun q => (Rt q.1, .tuple (q.2.map Nt))
def getG (g : Grp) (t : List Rat) : List Row := match g.find? fun q => decide (q.1 = t) with | some q => q.2 | none => []
theorem keyFor_G (g : Grp) (t : List Rat) : keyFor (encG g) (Rt t) = true := by
  cases g with
  | nil => simp [encG, keyFor]
  | cons q g => simp [encG, keyFor]
theorem dget_G (g : Grp) (t : List Rat) (h : t ∈ g.map (·.1)) : dget (encG g) (Rt t) = some (.tuple ((getG g t).map Nt)) := by
  induction g with
  | nil => cases h
  | cons q g ih =>
    unfold dget encG getG at *
    simp only [List.map_cons, List.find?_cons, eqv_Rt]
    by_cases e : q.1 = t
    · simp [e]
    · simp only [e, decide_false]
      exact ih ((List.mem_cons.mp h).resolve_left fun z => e z.symm)
theorem dhas_G (g : Grp) (t : List Rat) : dhas (encG g) (Rt t) = decide (t ∈ g.map (·.1)) := by
  by_cases h : t ∈ g.map (·.1)
  · unfold dhas; rw [dget_G g t h]; simp [h]
  · have : dget (encG g) (Rt t) = none := by
      unfold dget encG
      rw [List.find?_map, Option.map_map, Option.map_eq_none_iff, List.find?_eq_none]
      intro q hq
      have : q.1 ≠ t := fun z => h (z ▸ List.mem_map_of_mem hq)
      simp [this]
    unfold dhas; rw [this]; simp [h]
theorem dputs_G (g : Grp) (t : List Rat) (r : Row) (hl : g.length ≤ 1000) : dputs (encG g) (Rt t) (if t ∈ g.map (·.1) then .tuple (((getG g t) ++ [r]).map Nt) else .tuple [Nt r]) = some (encG (insG g t r)) ∨ ¬ (g.map (·.1)).Nodup := by
  by_cases hn : (g.map (·.1)).Nodup
  · left
    have hs : (encG g).length < sizeLine := by rw [sl]; unfold encG; rw [List.length_map]; exact Nat.lt_of_le_of_lt hl (by decide)
    unfold dputs dput
    rw [keyFor_G, dhas_G, decide_eq_true hs]
    simp only [Bool.and_self, if_true]
    unfold insG
    by_cases h : t ∈ g.map (·.1)
    · simp only [h, decide_true, if_true]
      refine congrArg some ?_
      unfold encG
      rw [List.map_map, List.map_map]
      refine List.map_congr_left fun q hq => ?_
      simp only [Function.comp, eqv_Rt, decide_eq_true_eq]
      by_cases e : q.1 = t
      · have : getG g t = q.2 := by
          clear hs hl
          subst e
          unfold getG
          induction g with
          | nil => cases hq
          | cons y g ih =>
            simp only [List.map_cons] at hn
            obtain ⟨h1, h2⟩ := List.nodup_cons.mp hn
            rcases List.mem_cons.mp hq with rfl | hq
            · simp
            · have : y.1 ≠ q.1 := fun z => h1 (z ▸ List.mem_map_of_mem hq)
              simp only [List.find?_cons, this, decide_false]
              exact ih h2 hq (List.mem_map_of_mem hq)
        simp [e, this]
      · simp [e]
    · simp only [h, decide_false, if_false, Bool.false_eq_true]
      simp [encG]
  · exact .inr hn
theorem insG_nodup {g : Grp} {t : List Rat} {r : Row} (h : (g.map (·.1)).Nodup) : ((insG g t r).map (·.1)).Nodup := by
  unfold insG
  split
  · have : (g.map fun q => if q.1 = t then (q.1, q.2 ++ [r]) else q).map (·.1) = g.map (·.1) := by
      rw [List.map_map]; refine List.map_congr_left fun q _ => ?_
      simp only [Function.comp]; split <;> rfl
    rw [this]; exact h
  · rename_i hn
    rw [List.map_append]
    exact List.nodup_append.mpr ⟨h, by simp, fun a ha b hb e => by simp at hb; subst e; subst hb; exact hn ha⟩
theorem insG_len (g : Grp) (t : List Rat) (r : Row) : (insG g t r).length ≤ g.length + 1 := by
  unfold insG; split <;> simp
def grp (f : Row → List Rat) (rs : List Row) : Grp := rs.foldl (fun g r => insG g (f r) r) []
def valG (g : Grp) : List Dt := g.map fun q => .tuple (q.2.map Nt)
theorem rowsG_len {f : Row → List Rat} {rs : List Row} : (∀ q ∈ grp f rs, q.2.length ≤ rs.length) := by
  have key : ∀ (rs : List Row) (g : Grp) (m : Nat), (∀ q ∈ g, q.2.length ≤ m) → ∀ q ∈ rs.foldl (fun g r => insG g (f r) r) g, q.2.length ≤ m + rs.length := by
    intro rs
    induction rs with
    | nil => intro g m h q hq; exact h q hq
    | cons r rs ih =>
      intro g m h q hq
      have := ih (insG g (f r) r) (m + 1) (fun q hq => by
        unfold insG at hq
        split at hq
        · obtain ⟨q', hq', rfl⟩ := List.mem_map.mp hq
          have := h q' hq'
          split
          · simp; omega
          · omega
        · rcases List.mem_append.mp hq with hq | hq
          · have := h q hq; omega
          · rw [List.mem_singleton.mp hq]; simp) q hq
      simp only [List.length_cons]; omega
  have := key rs [] 0 (by simp)
  intro q hq
  have := this q hq
  omega
theorem s_talk_lots {sizes sp : List Nat} {p : Row → Rat} {ev : Row → Bool} (h : TbOk sizes p) (hsp : SpOk sizes sp)
    (hs : sortD (valG (grp (fun r => (fin sizes p ev sp r).told) ((rows sizes).filter (pos p)))) = some (valG (grp (fun r => (fin sizes p ev sp r).told) ((rows sizes).filter (pos p))))) :
    f_talk_lots [.d (Tb sizes p), .d (Nt sp), .d (Ev sizes ev)] = ret (.d (.tuple (valG (grp (fun r => (fin sizes p ev sp r).told) ((rows sizes).filter (pos p)))))) := by
  refine den_ev (ρ0 := [some (.d (Tb sizes p)), some (.d (Nt sp)), some (.d (Ev sizes ev)), none, none, none]) rfl rfl fun st => ?_
  refine step_exp (.d .none) (by simp [c_talk_lots, s_need_talk h hsp]) ?_
  refine step_asg_wp ?_
  simp only [ev_dct, evs_nil, bnd_ret, pairUp, opt_some, dputAll, wp_fresh1d, List.set_cons_succ, List.set_cons_zero]
  refine step_for (xs := (rows sizes).filter (pos p)) (enc := fun r => .d (Nt r)) (gs := []) (by simp [c_talk_lots, s_drawn_rows h.sz, Function.comp_def]) ?_
  have hl36 : ((rows sizes).filter (pos p)).length ≤ 36 := Nat.le_trans (List.length_filter_le _ _) (by rw [len_rows]; exact h.sz.2.2.2)
  refine wp_floop (fun rest ρ s => ∃ pre w4 w5, (rows sizes).filter (pos p) = pre ++ rest ∧ s = st ++ [.dct (encG (grp (fun r => (fin sizes p ev sp r).told) pre))] ∧ ((grp (fun r => (fin sizes p ev sp r).told) pre).map (·.1)).Nodup ∧ (grp (fun r => (fin sizes p ev sp r).told) pre).length ≤ pre.length ∧ ρ = [some (.d (Tb sizes p)), some (.d (Nt sp)), some (.d (Ev sizes ev)), some (.ref st.length), w4, w5])
    ⟨[], none, none, rfl, rfl, by simp [grp], by simp [grp], rfl⟩ ?_ ?_
  · rintro r rest _ _ ⟨pre, w4, w5, e, rfl, hn, hl, rfl⟩
    refine ⟨held_nil, ?_⟩
    have hrm : r ∈ (rows sizes).filter (pos p) := by rw [e]; simp
    have hr := mf hrm
    have h0 : p r ≠ 0 := by simpa [pos] using (List.mem_filter.mp hrm).2
    have hpl : pre.length + 1 ≤ 36 := by
      have := congrArg List.length e
      simp only [List.length_append, List.length_cons] at this; omega
    have rl := rowsG_len (f := fun r => (fin sizes p ev sp r).told) (rs := pre)
    generalize hg : grp (fun r => (fin sizes p ev sp r).told) pre = g at *
    have hgn : grp (fun r => (fin sizes p ev sp r).told) (pre ++ [r]) = insG g (fin sizes p ev sp r).told r := by rw [← hg]; simp [grp]
    have c1 : (st ++ [Cell.dct (encG g)])[st.length]? = some (.dct (encG g)) := by simp
    simp only [turnf_app, bind1_nm, bnd_ret, List.set_cons_succ, List.set_cons_zero]
    have i0 : ∀ (x y : Dt), idxD (.tuple [x, y]) (.int 0) = some x := fun x y => by simp
    refine step_asg (.d (Rt (fin sizes p ev sp r).told)) (by simp [c_talk_lots, s_talked h hsp hr h0]) ?_
    simp only [List.set_cons_succ, List.set_cons_zero, exs_cons, exs_nil, ex_sub, ev_ife, ev_cmp, ev_var, lookEnv_s, lookEnv_z, bnd_ret, wp_bnd]
    rw [wp_cmpV, dat_d, wp_ret, wp_dat_dct c1]
    simp only [cmp_in_dict, keyFor_G, if_true, dhas_G, wp_opt_some, asBool_b, wp_ret, decide_eq_true_eq, wp_ite, ev_bin, ev_idx, ev_tup, ev_var, evs_cons, evs_nil, lookEnv_s, lookEnv_z, bnd_ret, wp_bnd, datas_cons, datas_nil, Option.map_some, opt_some]
    have dp := dputs_G g (fin sizes p ev sp r).told r (by omega)
    have dp := dp.resolve_right (not_not_intro hn)
    by_cases hm : (fin sizes p ev sp r).told ∈ g.map (·.1)
    · simp only [hm, if_true] at dp ⊢
      rw [wp_idx_dct c1]
      have hgl : (getG g (fin sizes p ev sp r).told).length ≤ 36 := by
        unfold getG
        split
        · rename_i q hq
          have := rl q (List.mem_of_find?_eq_some hq)
          omega
        · simp
      have hf : fits ((getG g (fin sizes p ev sp r).told).length + 1) = true := fits_k (by omega)
      simp only [idx_dict, keyFor_G, if_true, dget_G g _ hm, wp_opt_some, dat2_d, wp_ret, add_tuple, List.length_map, List.length_cons, List.length_nil, Nat.zero_add, hf]
      rw [List.map_append, List.map_cons, List.map_nil] at dp
      rw [wp_put_dct c1 dp]
      simp only [andThen_nx, exs_nil, wp_ret]
      refine ⟨pre ++ [r], _, _, by simp [e], ?_, ?_, ?_, rfl⟩
      · rw [hgn]; simp
      · rw [hgn]; exact insG_nodup hn
      · rw [hgn]; have := insG_len g (fin sizes p ev sp r).told r; simp; omega
    · simp only [hm, if_false] at dp ⊢
      rw [wp_put_dct c1 dp]
      simp only [andThen_nx, exs_nil, wp_ret]
      refine ⟨pre ++ [r], _, _, by simp [e], ?_, ?_, ?_, rfl⟩
      · rw [hgn]; simp
      · rw [hgn]; exact insG_nodup hn
      · rw [hgn]; have := insG_len g (fin sizes p ev sp r).told r; simp; omega
  · rintro _ _ ⟨pre, w4, w5, e, rfl, hn, hl, rfl⟩
    rw [List.append_nil] at e
    subst e
    refine ⟨held_nil, ?_⟩
    have hv : List.map (fun x => x.2) (encG (grp (fun r => (fin sizes p ev sp r).told) ((rows sizes).filter (pos p)))) = valG (grp (fun r => (fin sizes p ev sp r).told) ((rows sizes).filter (pos p))) := by unfold encG valG; rw [List.map_map]; rfl
    simp
    rw [wp_dat_dct (kvs := encG (grp (fun r => (fin sizes p ev sp r).told) ((rows sizes).filter (pos p)))) (by simp)]
    simp [hv, hs]
end EV.Sp
end

section
set_option autoImplicit false
set_option linter.all false
set_option maxRecDepth 100000
set_option exponentiation.threshold 10000
/-! SpZ: the told table. -/
namespace EV.Sp
open PySem
/-- _law_known_right(): 0 parts 1 table 2 event 3 told 4 due 5 lots 6 row -/
def b_law_known_right : Ss :=
 (.cons (.asg (.nm 0) (.dct 0 (.cons (.tup (.cons (.con (.int 0)) (.cons (.con (.int 0)) (.cons (.con (.int 0)) .nil)))) (.cons (.tup (.cons (.con (.int 2)) (.cons (.con (.int 9)) .nil))) (.cons (.tup (.cons (.con (.int 0)) (.cons (.con (.int 0)) (.cons (.con (.int 1)) .nil)))) (.cons (.tup (.cons (.con (.int 1)) (.cons (.con (.int 9)) .nil))) (.cons (.tup (.cons (.con (.int 1)) (.cons (.con (.int 0)) (.cons (.con (.int 1)) .nil)))) (.cons (.tup (.cons (.con (.int 1)) (.cons (.con (.int 9)) .nil))) (.cons (.tup (.cons (.con (.int 1)) (.cons (.con (.int 1)) (.cons (.con (.int 0)) .nil)))) (.cons (.tup (.cons (.con (.int 2)) (.cons (.con (.int 9)) .nil))) (.cons (.tup (.cons (.con (.int 2)) (.cons (.con (.int 1)) (.cons (.con (.int 0)) .nil)))) (.cons (.tup (.cons (.con (.int 2)) (.cons (.con (.int 9)) .nil))) (.cons (.tup (.cons (.con (.int 2)) (.cons (.con (.int 2)) (.cons (.con (.int 0)) .nil)))) (.cons (.tup (.cons (.con (.int 1)) (.cons (.con (.int 9)) .nil))) .nil))))))))))))))
 (.cons (.asg (.nm 1) (.tup (.cons (.con (.str "table")) (.cons (.tup (.cons (.con (.int 3)) (.cons (.con (.int 3)) (.cons (.con (.int 2)) .nil)))) (.cons (.b1 .dict 0 (.lc1 0 (.tup (.cons (.var 6) (.cons (.ife (.cmp .In (.var 6) (.var 0)) (.idx (.var 0) (.var 6)) (.tup (.cons (.con (.int 0)) (.cons (.con (.int 1)) .nil)))) .nil))) (.nm 6) (.val (.call 4 (.cons (.tup (.cons (.con (.int 3)) (.cons (.con (.int 3)) (.cons (.con (.int 2)) .nil)))) .nil))) .nil [6])) .nil)))))
 (.cons (.asg (.nm 2) (.b1 .tuple 0 (.lc1 0 (.var 6) (.nm 6) (.val (.call 4 (.cons (.tup (.cons (.con (.int 3)) (.cons (.con (.int 3)) (.cons (.con (.int 2)) .nil)))) .nil))) (.cons (.cmp .Eq (.idx (.var 6) (.con (.int 2))) (.con (.int 1))) .nil) [6])))
 (.cons (.asg (.nm 3) (.lst 0 (.cons (.call 2 (.cons (.var 1) (.cons (.tup (.cons (.con (.int 0)) (.cons (.con (.int 1)) .nil))) (.cons (.var 2) (.cons (.tup (.cons (.con (.int 0)) (.cons (.con (.int 0)) (.cons (.con (.int 0)) .nil)))) .nil))))) (.cons (.call 3 (.cons (.var 1) (.cons (.tup (.cons (.con (.int 0)) (.cons (.con (.int 1)) .nil))) (.cons (.var 2) (.cons (.tup (.cons (.con (.int 0)) (.cons (.con (.int 0)) (.cons (.con (.int 0)) .nil)))) .nil))))) (.cons (.call 2 (.cons (.var 1) (.cons (.tup (.cons (.con (.int 0)) (.cons (.con (.int 1)) .nil))) (.cons (.var 2) (.cons (.tup (.cons (.con (.int 2)) (.cons (.con (.int 2)) (.cons (.con (.int 0)) .nil)))) .nil))))) .nil)))))
 (.cons (.asg (.nm 4) (.lst 0 (.cons (.tup (.cons (.tup (.cons (.con (.int 1)) (.cons (.con (.int 3)) .nil))) (.cons (.tup (.cons (.con (.int 1)) (.cons (.con (.int 2)) .nil))) (.cons (.tup (.cons (.con (.int 1)) (.cons (.con (.int 3)) .nil))) (.cons (.tup (.cons (.con (.int 1)) (.cons (.con (.int 3)) .nil))) (.cons (.tup (.cons (.con (.int 1)) (.cons (.con (.int 3)) .nil))) .nil)))))) (.cons (.tup (.cons (.tup (.cons (.con (.int 0)) (.cons (.con (.int 0)) (.cons (.con (.int 0)) .nil)))) (.cons (.tup (.cons (.con (.int 0)) (.cons (.con (.int 0)) (.cons (.con (.int 1)) .nil)))) .nil))) (.cons (.tup (.cons (.tup (.cons (.con (.int 0)) (.cons (.con (.int 1)) .nil))) (.cons (.tup (.cons (.con (.int 0)) (.cons (.con (.int 1)) .nil))) (.cons (.tup (.cons (.con (.int 0)) (.cons (.con (.int 1)) .nil))) .nil)))) .nil)))))
 (.cons (.asg (.nm 5) (.tup (.cons (.tup (.cons (.tup (.cons (.con (.int 0)) (.cons (.con (.int 0)) (.cons (.con (.int 0)) .nil)))) (.cons (.tup (.cons (.con (.int 0)) (.cons (.con (.int 0)) (.cons (.con (.int 1)) .nil)))) .nil))) (.cons (.tup (.cons (.tup (.cons (.con (.int 1)) (.cons (.con (.int 0)) (.cons (.con (.int 1)) .nil)))) .nil)) (.cons (.tup (.cons (.tup (.cons (.con (.int 1)) (.cons (.con (.int 1)) (.cons (.con (.int 0)) .nil)))) .nil)) (.cons (.tup (.cons (.tup (.cons (.con (.int 2)) (.cons (.con (.int 1)) (.cons (.con (.int 0)) .nil)))) (.cons (.tup (.cons (.con (.int 2)) (.cons (.con (.int 2)) (.cons (.con (.int 0)) .nil)))) .nil))) .nil))))))
 (.cons (.ret (.and (.cons (.call 0 (.cons (.var 3) (.cons (.var 4) .nil))) (.cons (.call 0 (.cons (.call 1 (.cons (.var 1) (.cons (.tup (.cons (.con (.int 0)) (.cons (.con (.int 1)) .nil))) (.cons (.var 2) .nil)))) (.cons (.var 5) .nil))) .nil))))
 .nil)))))))
noncomputable def c_law_known_right : Ctx := ⟨[("_law_same", f_law_same), ("talk_lots", f_talk_lots), ("talk", f_talk), ("left_open", f_left_open), ("_law_rows_of", f_law_rows_of)], []⟩
noncomputable def f_law_known_right : Fn := den c_law_known_right 0 7 false b_law_known_right
def kRows : List Row := [[0, 0, 0], [0, 0, 1], [1, 0, 1], [1, 1, 0], [2, 1, 0], [2, 2, 0]]
def kp : Row → Rat := fun r => if r = [0, 0, 0] ∨ r = [1, 1, 0] ∨ r = [2, 1, 0] then 2 / 9 else if r = [0, 0, 1] ∨ r = [1, 0, 1] ∨ r = [2, 2, 0] then 1 / 9 else 0
def kz : List Nat := [3, 3, 2]
def kev : Row → Bool := fun r => decide (lv 2 r = 1)
def ksp : List Nat := [0, 1]
theorem kz_ok : SzOk kz := by decide
theorem ksp_ok : SpOk kz ksp := ⟨by decide, by decide, by decide, by decide⟩
theorem kp_ok : TbOk kz kp := by
  refine ⟨kz_ok, ⟨9, by decide, Nat.lt_of_lt_of_le (m := 2 ^ 4) (by decide) (Nat.pow_le_pow_right (by decide) (by decide)), fun r hr => ⟨(kp r * 9).num.toNat, ?_⟩⟩, by decide +kernel⟩
  have : ∀ r ∈ rows kz, kp r = (((kp r * 9).num.toNat : Nat) : Rat) / ((9 : Nat) : Rat) := by decide +kernel
  exact this r hr
theorem R29 : R (2 / 9) = .tuple [.int 2, .int 9] := R_of (by decide +kernel) (by decide +kernel)
theorem R19 : R (1 / 9) = .tuple [.int 1, .int 9] := R_of (by decide +kernel) (by decide +kernel)
theorem R13 : R (1 / 3) = .tuple [.int 1, .int 3] := R_of (by decide +kernel) (by decide +kernel)
theorem R12 : R (1 / 2) = .tuple [.int 1, .int 2] := R_of (by decide +kernel) (by decide +kernel)
theorem fin1 : (fin kz kp kev ksp [0, 0, 0]).told = [1 / 3, 1 / 2, 1 / 3, 1 / 3, 1 / 3] := by decide +kernel
theorem fin2 : (rows kz).filter (fin kz kp kev ksp [0, 0, 0]).still = [[0, 0, 0], [0, 0, 1]] := by decide +kernel
theorem fin3 : (fin kz kp kev ksp [2, 2, 0]).told = [0, 0, 0] := by decide +kernel
theorem lots1 : (grp (fun r => (fin kz kp kev ksp r).told) ((rows kz).filter (pos kp))).map (·.2) = [[[0, 0, 0], [0, 0, 1]], [[1, 0, 1]], [[1, 1, 0]], [[2, 1, 0], [2, 2, 0]]] := by decide +kernel
def kLots : List Dt := [[[0, 0, 0], [0, 0, 1]], [[1, 0, 1]], [[1, 1, 0]], [[2, 1, 0], [2, 2, 0]]].map fun rs => .tuple (rs.map Nt)
theorem lots2 : valG (grp (fun r => (fin kz kp kev ksp r).told) ((rows kz).filter (pos kp))) = kLots := by
  have : ∀ g : Grp, valG g = (g.map (·.2)).map fun rs => .tuple (rs.map Nt) := fun g => by unfold valG; rw [List.map_map]; rfl
  rw [this, lots1]; rfl
theorem lots3 : sortD kLots = some kLots := by
  unfold sortD
  rw [if_pos (by decide +kernel), List.mergeSort_of_pairwise (by decide +kernel)]
theorem s_lots : f_talk_lots [.d (Tb kz kp), .d (Nt ksp), .d (Ev kz kev)] = ret (.d (.tuple kLots)) := by
  rw [s_talk_lots kp_ok ksp_ok (by rw [lots2, lots3]), lots2]
theorem kparts : ∀ r ∈ rows kz, (if r ∈ kRows then kp r else 0) = kp r := by decide +kernel
theorem s_law_known_right : f_law_known_right [] = ret (.d (.bool true)) := by
  refine den_ev (ρ0 := [none, none, none, none, none, none, none]) rfl rfl fun st => ?_
  unfold b_law_known_right
  have m1 : ([0, 0, 0] : Row) ∈ rows kz := by decide
  have m2 : ([2, 2, 0] : Row) ∈ rows kz := by decide
  have p1 : kp [0, 0, 0] ≠ 0 := by decide +kernel
  have p2 : kp [2, 2, 0] ≠ 0 := by decide +kernel
  have ez : (.tuple [.int 3, .int 3, .int 2] : Dt) = Nt kz := rfl
  have es : (.tuple [.int 0, .int 1] : Dt) = Nt ksp := rfl
  have e000 : (.tuple [.int 0, .int 0, .int 0] : Dt) = Nt [0, 0, 0] := rfl
  have e220 : (.tuple [.int 2, .int 2, .int 0] : Dt) = Nt [2, 2, 0] := rfl
  have ed : (.dict [(.tuple [.int 0, .int 0, .int 0], .tuple [.int 2, .int 9]), (.tuple [.int 0, .int 0, .int 1], .tuple [.int 1, .int 9]), (.tuple [.int 1, .int 0, .int 1], .tuple [.int 1, .int 9]), (.tuple [.int 1, .int 1, .int 0], .tuple [.int 2, .int 9]), (.tuple [.int 2, .int 1, .int 0], .tuple [.int 2, .int 9]), (.tuple [.int 2, .int 2, .int 0], .tuple [.int 1, .int 9])] : Dt) = .dict (kRows.map fun r => (Nt r, R (kp r))) := by
    have a1 : ∀ r : Row, kp r = 2 / 9 → R (kp r) = .tuple [.int 2, .int 9] := fun r e => by rw [e, R29]
    have a2 : ∀ r : Row, kp r = 1 / 9 → R (kp r) = .tuple [.int 1, .int 9] := fun r e => by rw [e, R19]
    simp only [kRows, List.map_cons, List.map_nil, a1 [0, 0, 0] (by decide +kernel), a2 [0, 0, 1] (by decide +kernel), a2 [1, 0, 1] (by decide +kernel), a1 [1, 1, 0] (by decide +kernel), a1 [2, 1, 0] (by decide +kernel), a2 [2, 2, 0] (by decide +kernel)]
    rfl
  have dp := dputAll_map (ek := Nt) (ev := fun r => R (kp r)) (ks := kRows) (pre := []) tupKey_Nt eqv_Nt (by decide) (by decide)
  simp only [List.map_nil, List.nil_append] at dp
  have ed' := PyData.dict.inj ed
  rw [← ed'] at dp
  refine step_asg (.d (.dict (kRows.map fun r => (Nt r, R (kp r))))) (by simp [pairUp, dp, ed]) ?_
  simp only [List.set_cons_zero]
  have h1 : comp [] (turn1 c_law_known_right (.nm 6) [6] .nil (.tup (.cons (.var 6) (.cons (.ife (.cmp .In (.var 6) (.var 0)) (.idx (.var 0) (.var 6)) (.tup (.cons (.con (.int 0)) (.cons (.con (.int 1)) .nil)))) .nil))) [some (.d (.dict (kRows.map fun r => (Nt r, R (kp r))))), none, none, none, none, none, none]) ((rows kz).map fun r => .d (Nt r)) = ret ((rows kz).map fun r => .tuple [Nt r, R (kp r)]) := by
    refine lc_map _ fun r hr => ?_
    have kr := kparts r hr
    have kf : keyFor (kRows.map fun r => (Nt r, R (kp r))) (Nt r) = true := keyFor_map tupKey_Nt
    have dh : dhas (kRows.map fun r => (Nt r, R (kp r))) (Nt r) = decide (r ∈ kRows) := (dhas_map (ek := Nt) (ev := fun r => R (kp r)) eqv_Nt).trans (decide_eq_decide.mpr Iff.rfl)
    by_cases hm : r ∈ kRows
    · have dg : dget (kRows.map fun r => (Nt r, R (kp r))) (Nt r) = some (R (kp r)) := dget_map (ek := Nt) (ev := fun r => R (kp r)) eqv_Nt hm
      simp only [turn1_app, bind1_nm, wipeE_cons, wipeE_nil, bnd_ret, List.set_cons_succ, List.set_cons_zero, evc_nil, if_true, ev_tup, evs_cons, evs_nil, ev_var, ev_ife, ev_cmp, ev_idx, lookEnv_s, lookEnv_z, cmpV_d, cmp_in_dict, kf, dh, hm, decide_true, opt_some, asBool_b, idxV_d, idx_dict, dg, datas_cons, datas_nil, Option.map_some, pureD_d]
    · rw [if_neg hm] at kr
      simp only [turn1_app, bind1_nm, wipeE_cons, wipeE_nil, bnd_ret, List.set_cons_succ, List.set_cons_zero, evc_nil, if_true, ev_tup, evs_cons, evs_nil, ev_var, ev_ife, ev_cmp, ev_idx, ev_con, conD_int, lookEnv_s, lookEnv_z, cmpV_d, cmp_in_dict, kf, dh, hm, decide_false, Bool.false_eq_true, if_false, opt_some, asBool_b, datas_cons, datas_nil, Option.map_some, pureD_d, R0, ← kr]
  have hd := pairs_Nt (rows kz) kp (rows_nodup kz) (rows_le kz_ok)
  refine step_asg (.d (Tb kz kp)) ?_ ?_
  · simp only [ev_tup, evs_cons, evs_nil, ev_con, conD_int, conD_str, opt_some, bnd_ret, datas_cons, datas_nil, Option.map_some, ez, ev_b1, ev_lc1, evi_val, ev_call, bnd_bnd]
    simp [c_law_known_right, s_law_rows_of kz_ok, Function.comp_def]
    simp only [c_law_known_right] at h1
    rw [h1]
    simp [hd]
    rfl
  simp only [List.set_cons_succ, List.set_cons_zero]
  have h2 : ∀ w, comp [] (turn1 c_law_known_right (.nm 6) [6] (.cons (.cmp .Eq (.idx (.var 6) (.con (.int 2))) (.con (.int 1))) .nil) (.var 6) [w, some (.d (Tb kz kp)), none, none, none, none, none]) ((rows kz).map fun r => .d (Nt r)) = ret (((rows kz).filter kev).map Nt) := by
    intro w
    refine lc_filter kev Nt fun r hr => ?_
    have := idx_lv hr (place := 2) (by decide)
    have e2 : (PyData.int 2) = .int ((2 : Nat) : Int) := rfl
    have e3 : ((lv 2 r : Nat) : Int) = 1 ↔ lv 2 r = 1 := by omega
    simp [e2, this, kev, e3]
  refine step_asg (.d (Ev kz kev)) ?_ ?_
  · simp only [c_law_known_right] at h2
    simp [c_law_known_right, ez, s_law_rows_of kz_ok, Function.comp_def, h2, Ev]
  simp only [List.set_cons_succ, List.set_cons_zero]
  refine step_asg (.d (.list [Rt [1 / 3, 1 / 2, 1 / 3, 1 / 3, 1 / 3], Ev kz (fin kz kp kev ksp [0, 0, 0]).still, Rt [0, 0, 0]])) ?_ ?_
  · simp [c_law_known_right, es, e000, e220, s_talk kp_ok ksp_ok m1 p1, s_left_open kp_ok ksp_ok m1 p1, s_talk kp_ok ksp_ok m2 p2, fin1, fin3]
  simp only [List.set_cons_succ, List.set_cons_zero]
  refine step_asg (.d (.list [Rt [1 / 3, 1 / 2, 1 / 3, 1 / 3, 1 / 3], Ev kz (fin kz kp kev ksp [0, 0, 0]).still, Rt [0, 0, 0]])) ?_ ?_
  · have : Ev kz (fin kz kp kev ksp [0, 0, 0]).still = .tuple [Nt [0, 0, 0], Nt [0, 0, 1]] := by unfold Ev; rw [fin2]; rfl
    rw [this]
    simp [Rt, R13, R12, ← R0, Nt]
  simp only [List.set_cons_succ, List.set_cons_zero]
  refine step_asg (.d (.tuple kLots)) (by simp [kLots, Nt]) ?_
  simp only [List.set_cons_succ, List.set_cons_zero]
  have sa : f_law_same [.d (.list [Rt [1 / 3, 1 / 2, 1 / 3, 1 / 3, 1 / 3], Ev kz (fin kz kp kev ksp [0, 0, 0]).still, Rt [0, 0, 0]]), .d (.list [Rt [1 / 3, 1 / 2, 1 / 3, 1 / 3, 1 / 3], Ev kz (fin kz kp kev ksp [0, 0, 0]).still, Rt [0, 0, 0]])] = ret (.d (.bool true)) := by
    refine s_law_same ⟨?_, ?_⟩ ?_
    · simp [PyData.canLay0, PyData.canLayAll0, (Pl_Rt _).1, (Pl_Ev kz _).1]
    · simp only [PyData.depth, PyData.depthAll]
      have := (Pl_Rt [1 / 3, 1 / 2, 1 / 3, 1 / 3, 1 / 3]).2
      have := (Pl_Rt [0, 0, 0]).2
      have := (Pl_Ev kz (fin kz kp kev ksp [0, 0, 0]).still).2
      omega
    · simp only [szD, szAll]
      have := szD_Rt [1 / 3, 1 / 2, 1 / 3, 1 / 3, 1 / 3]
      have := szD_Rt [0, 0, 0]
      have := szD_Ev kz_ok (fin kz kp kev ksp [0, 0, 0]).still
      simp only [List.length_cons, List.length_nil] at *
      omega
  have sb : f_law_same [.d (.tuple kLots), .d (.tuple kLots)] = ret (.d (.bool true)) := s_law_same ⟨by decide +kernel, by decide +kernel⟩ (by decide +kernel)
  refine step_ret (.d (.bool true)) (by simp [c_law_known_right, es, s_lots, sa, sb]) ?_
  exact ⟨rfl, [], by simp⟩
end EV.Sp
end

section
set_option autoImplicit false
set_option linter.all false
set_option maxRecDepth 100000
set_option exponentiation.threshold 10000
/-! SpX: the law of the ends of talks. -/
namespace EV.Sp
open PySem
theorem perm_map {α β : Type} {f : α → β} {xs ys : List β} (h : xs.Perm ys) : ∀ l : List α, xs = l.map f → ∃ l', ys = l'.map f ∧ l.Perm l' := by
  induction h with
  | nil => intro l e; exact ⟨[], rfl, by rw [List.map_eq_nil_iff.mp e.symm]⟩
  | cons x _ ih =>
    intro l e
    cases l with
    | nil => cases e
    | cons y l =>
      simp only [List.map_cons, List.cons.injEq] at e
      obtain ⟨l', rfl, p⟩ := ih l e.2
      exact ⟨y :: l', by simp [e.1], p.cons y⟩
  | swap x y l =>
    intro l' e
    cases l' with
    | nil => cases e
    | cons a l' => cases l' with
      | nil => cases e
      | cons c l' =>
        simp only [List.map_cons, List.cons.injEq] at e
        exact ⟨c :: a :: l', by simp [e.1, e.2.1, e.2.2], List.Perm.swap c a l'⟩
  | trans _ _ ih1 ih2 =>
    intro l e
    obtain ⟨l1, rfl, p1⟩ := ih1 l e
    obtain ⟨l2, rfl, p2⟩ := ih2 l1 rfl
    exact ⟨l2, rfl, p1.trans p2⟩
theorem shaped_sub {α : Type} {f : α → Dt} {l : List α} (h : ∀ x, (f x).canLay0 = true ∧ (f x).depth ≤ 1) : ∀ ys : List Dt, ys.Subset (l.map f) → shaped (.list ys) = true := by
  intro ys hs
  have := shaped_list (f := id) (l := ys) 1 (by decide) fun y hy => by
    obtain ⟨x, _, rfl⟩ := List.mem_map.mp (hs hy)
    exact h x
  simpa using this
theorem int_ok (x : Nat) : (PyData.int (x : Nat)).canLay0 = true ∧ (PyData.int (x : Nat)).depth ≤ 1 := ⟨by simp [PyData.canLay0], by simp [PyData.depth]⟩
/-- all shuffled -/
theorem shuffle_of {α : Type} {f : α → Dt} {n g b : Nat} {st : Sto} {l : List α} (h : ∀ x, (f x).canLay0 = true ∧ (f x).depth ≤ 1) (d : DS n g (b + l.length) st) (hl : l.length ≤ 1000) : wp (f_law_shuffled [.ref n, .d (.list (l.map f))]) (fun v s => (∃ l', l.Perm l' ∧ v = .d (.list (l'.map f))) ∧ Dr n g b st s) st := by
  refine (s_law_shuffled (xs := l.map f) (by rw [List.length_map]; exact d) (by rw [List.length_map]; exact Nat.lt_of_le_of_lt hl (by decide)) (shaped_sub h)).mono ?_
  rintro _ s ⟨⟨ys, p, rfl⟩, dr⟩
  obtain ⟨l', rfl, q⟩ := perm_map p l rfl
  exact ⟨⟨l', q, rfl⟩, dr⟩
theorem sort_rows {sizes : List Nat} (h : SzOk sizes) : sortD ((rows sizes).map Nt) = some ((rows sizes).map Nt) := by
  have al : ∀ a b : List Nat, W.alike (Nt a) (Nt b) = true := by
    intro a b
    unfold Nt
    simp only [W.alike]
    induction a generalizing b with
    | nil => simp [W.alikeAll]
    | cons x a ih => cases b with
      | nil => simp [W.alikeAll]
      | cons y b => simp only [List.map_cons, W.alikeAll, W.alike, Bool.true_and]; exact ih b
  unfold sortD
  rw [if_pos, List.mergeSort_of_pairwise]
  · rw [List.pairwise_map]
    refine (rows_sorted sizes).imp fun {a b} hab => ?_
    show (!W.dataLt (Nt b) (Nt a)) = true
    rw [lt_data]
    cases e : ltN b a with
    | false => rfl
    | true => have := ltN_trans hab e; rw [ltN_irrefl] at this; cases this
  · simp only [Bool.and_eq_true]
    refine ⟨⟨?_, ?_⟩, ?_⟩
    · simp only [allAlike, List.all_eq_true, List.mem_map]
      rintro _ ⟨a, _, rfl⟩ _ ⟨b, _, rfl⟩
      exact al a b
    · simp only [sortable, Bool.or_eq_true, List.all_eq_true, List.mem_map]
      left
      rintro _ ⟨a, ha, rfl⟩
      have := inR_len (mem_rows.mp ha)
      have := h.1
      cases a with
      | nil => simp at *; omega
      | cons x a => rfl
    · simp only [List.all_eq_true, List.mem_map, Bool.and_eq_true, decide_eq_true_eq]
      rintro _ ⟨a, _, rfl⟩
      exact ⟨(Nt_ok a).1, by have := (Nt_ok a).2; omega⟩
/-- law(script): 0 script 1 draws 2 lap 3 table 4 event 5 count 6 speakers 7 rows 8 row -/
def b_law : Ss :=
 (.cons (.asg (.nm 1) (.call 7 (.cons (.var 0) .nil)))
 (.cons (.for_ (.nm 2) (.rg1 (.bin .Add (.con (.int 3)) (.b2 .min (.b1 .len 0 (.var 0)) (.con (.int 2)))))
 (.cons (.asg (.nm 3) (.call 5 (.cons (.var 1) (.cons (.call 6 (.cons (.var 1) (.cons (.con (.int 18)) .nil))) .nil))))
 (.cons (.par [4, 5] (.cons (.call 4 (.cons (.var 1) (.cons (.idx (.var 3) (.con (.int 1))) .nil))) (.cons (.b1 .len 0 (.idx (.var 3) (.con (.int 1)))) .nil)))
 (.cons (.asg (.nm 6) (.b1 .tuple 0 (.sli (.call 1 (.cons (.var 1) (.cons (.itl .list 0 (.rg1 (.var 5))) .nil))) .none (.some (.bin .Add (.con (.int 1)) (.call 3 (.cons (.var 1) (.cons (.b2 .min (.var 5) (.con (.int 3))) .nil))))))))
 (.cons (.asg (.nm 7) (.lc1 0 (.var 8) (.nm 8) (.val (.b1 .sorted 0 (.idx (.var 3) (.con (.int 2))))) (.cons (.cmp .NotEq (.idx (.idx (.var 3) (.con (.int 2))) (.var 8)) (.tup (.cons (.con (.int 0)) (.cons (.con (.int 1)) .nil)))) .nil) [8]))
 (.cons (.for_ (.nm 8) (.val (.sli (.call 1 (.cons (.var 1) (.cons (.var 7) .nil))) .none (.some (.con (.int 4)))))
 (.cons (.ife (.not (.call 2 (.cons (.var 1) (.cons (.var 3) (.cons (.var 6) (.cons (.var 4) (.cons (.var 8) .nil)))))))
 (.cons (.ret (.con (.bool false)))
 .nil)
 .nil)
 .nil))
 .nil))))))
 (.cons (.ret (.call 0 .nil))
 .nil)))
noncomputable def c_law : Ctx := ⟨[("_law_known_right", f_law_known_right), ("_law_shuffled", f_law_shuffled), ("_law_row_right", f_law_row_right), ("_law_draw", f_law_draw), ("_law_sm_event", f_law_sm_event), ("_law_table", f_law_table), ("_law_sizes", f_law_sizes), ("_law_begun", f_law_begun)], []⟩
noncomputable def f_law : Fn := den c_law 1 9 false b_law
theorem lt40 {L : Nat} (h : L ≤ 5) : 2000 * (List.range L).length + 10 ≤ 2 ^ 40 := by
  rw [List.length_range]; exact Nat.le_trans (m := 2000 * 5 + 10) (by omega) (by decide)
theorem s_law {ns : List Int} {v : Val} {st0 : Sto} (hv : (v = .d (.list (ns.map .int)) ∧ st0 = []) ∨ (v = .ref 0 ∧ st0 = [.kl (ns.map .int)])) : wp (f_law [v]) (fun w s => w = .d (.bool true)) st0 := by
  refine wp_den (ρ0 := [some v, none, none, none, none, none, none, none, none]) rfl rfl ?_
  unfold b_law
  refine step_asg_wp ?_
  simp only [ev_call, evs_cons, evs_nil, ev_var, lookEnv_z, bnd_ret, c_law, List.getElem?_cons_zero, List.getElem?_cons_succ, opt_some]
  refine (s_law_begun hv).mono ?_
  rintro _ s0 ⟨rfl, hl0, ht0, d0⟩
  generalize hn : st0.length + 1 = n at *
  generalize hg : st0.length = g at *
  simp only [List.set_cons_succ, List.set_cons_zero]
  have fin : ∀ (s : Sto) (ρ : EV.Env), Dr n g 0 s0 s → Left st0 (fun w s => w = .d (.bool true)) (.ret (.d (.bool true)), ρ) s := by
    intro s ρ dr
    refine ⟨fun m c hm hc => .inl ?_, rfl⟩
    rw [dr.2.2 m (by omega) (by omega)] at hc
    rw [← ht0, List.getElem?_take_of_lt (by omega)]
    exact hc
  obtain ⟨L, hL, eL⟩ : ∃ L : Nat, L ≤ 5 ∧ ∀ (Q : List Val × List Nat → Sto → Prop) (w1 w2 w3 w4 w5 w6 w7 w8 : Option Val), Q ((List.range L).map fun i : Nat => .d (.int i), []) s0 → wp (evi c_law (.rg1 (.bin .Add (.con (.int 3)) (.b2 .min (.b1 .len 0 (.var 0)) (.con (.int 2))))) [some v, w1, w2, w3, w4, w5, w6, w7, w8]) Q s0 := by
    refine ⟨3 + min ns.length 2, by omega, fun Q w1 w2 w3 w4 w5 w6 w7 w8 q => ?_⟩
    have e1 : (3 : Int) + (if (2 : Int) < ((ns.length : Nat) : Int) then (2 : Int) else ((ns.length : Nat) : Int)) = ((3 + min ns.length 2 : Nat) : Int) := by split <;> omega
    simp only [evi_rg1, ev_bin, ev_con, conD_int, opt_some, bnd_ret, ev_b2, ev_b1, ev_var, lookEnv_z, wp_bnd, wp_ret]
    have dl : ∀ Q : Dt → Sto → Prop, Q (.list (ns.map .int)) s0 → wp (dat v) Q s0 := by
      intro Q q
      rcases hv with ⟨rfl, e⟩ | ⟨rfl, e⟩
      · simpa using q
      · rw [wp_dat_kl (xs := ns.map .int)]
        · exact q
        · have h1 : (s0.take g)[0]? = s0[0]? := List.getElem?_take_of_lt (by rw [← hg, e]; simp)
          rw [← h1, ht0, e]; rfl
    refine dl _ ?_
    simp only [len_list, List.length_map, wp_opt_some, fresh_z, wp_ret, pureD_d, bnd_ret, min_int, dat2_d, add_int, e1]
    rw [rng_k (by omega), wp_ret]
    exact q
  rw [exs_cons, ex_for, wp_bnd, wp_bnd]
  refine eL _ _ _ _ _ _ _ _ _ ?_
  refine wp_floop (fun rest ρ s => Dr n g (2000 * rest.length + 10) s0 s ∧ ∃ w2 w3 w4 w5 w6 w7 w8, ρ = [some v, some (.ref n), w2, w3, w4, w5, w6, w7, w8]) ⟨Dr.refl (d0.mono (lt40 hL)), none, none, none, none, none, none, none, rfl⟩ ?_ ?_
  · rintro x rest _ s ⟨dr0, w2, w3, w4, w5, w6, w7, w8, rfl⟩
    refine ⟨held_nil, ?_⟩
    have ds : DS n g ((2000 * rest.length + 10) + 2000) s := dr0.2.1.mono (by simp only [List.length_cons]; omega)
    generalize 2000 * rest.length + 10 = B at *
    simp only [turnf_app, bind1_nm, bnd_ret, List.set_cons_succ, List.set_cons_zero]
    refine step_asg_wp ?_
    simp only [ev_call, evs_cons, evs_nil, ev_var, ev_con, conD_int, lookEnv_s, lookEnv_z, bnd_ret, bnd_bnd, c_law, List.getElem?_cons_zero, List.getElem?_cons_succ, opt_some, wp_bnd]
    refine (s_law_sizes (b := B + 1900) (most := 18) (ds.mono (by omega)) (by decide)).mono ?_
    rintro _ s1 ⟨⟨sizes, hz, _, rfl⟩, dr1⟩
    refine (s_law_table (b := B + 800) hz (dr1.2.1.mono (by omega))).mono ?_
    rintro _ s2 ⟨⟨p, hp, rfl⟩, dr2⟩
    simp only [List.set_cons_succ, List.set_cons_zero]
    have dr02 := (dr0.trans dr1).trans dr2
    rw [exs_cons, ex_par, wp_bnd]
    simp only [evs_cons, evs_nil, ev_call, ev_var, ev_idx, ev_con, conD_int, ev_b1, lookEnv_s, lookEnv_z, bnd_ret, bnd_bnd, idxV_d, idx_Tb1, List.getElem?_cons_zero, List.getElem?_cons_succ, opt_some, wp_bnd, dat_d, len_Nt, fresh_z]
    refine (s_law_sm_event (b := B + 700) hz (dr2.2.1.mono (by omega))).mono ?_
    rintro _ s3 ⟨⟨ev, rfl⟩, dr3⟩
    simp only [wp_ret, List.length_cons, List.length_nil, if_true, setAll_cons, setAll_nil, List.set_cons_succ, List.set_cons_zero, andThen_nx]
    have dr03 := dr02.trans dr3
    refine step_asg_wp ?_
    have hz4 := hz.2.1
    have hz1 := hz.1
    have b1l : b1D .list (.list ((List.range sizes.length).map fun i : Nat => .int i)) = some (.list ((List.range sizes.length).map fun i : Nat => .int i)) := list_list _
    have dv : datas ((List.range sizes.length).map fun i : Nat => Val.d (.int i)) = some ((List.range sizes.length).map fun i : Nat => .int i) := by rw [mapd, datas_map]
    simp only [ev_b1, ev_sli, ev_call, evs_cons, evs_nil, ev_var, ev_itl, evi_rg1, evo_none, evo_some, lookEnv_s, lookEnv_z, bnd_ret, bnd_bnd, pureD_d, rng_k (n := sizes.length) (by omega), dv, opt_some, b1l, fresh_z, List.getElem?_cons_zero, List.getElem?_cons_succ, wp_bnd]
    refine (shuffle_of (f := fun i : Nat => .int i) (l := List.range sizes.length) int_ok (b := B + 690) (dr3.2.1.mono (by rw [List.length_range]; omega)) (by rw [List.length_range]; omega)).mono ?_
    rintro _ s4 ⟨⟨qs, pq, rfl⟩, dr4⟩
    have dr04 := dr03.trans dr4
    have em : (if (3 : Int) < ((sizes.length : Nat) : Int) then (3 : Int) else ((sizes.length : Nat) : Int)) = ((min sizes.length 3 : Nat) : Int) := by split <;> omega
    simp only [ev_bin, ev_call, evs_cons, evs_nil, ev_b2, ev_var, ev_con, conD_int, lookEnv_s, lookEnv_z, bnd_ret, bnd_bnd, pureD_d, opt_some, min_int, em, List.getElem?_cons_zero, List.getElem?_cons_succ, wp_bnd, wp_ret]
    refine (s_law_draw (b := B + 680) (r := min sizes.length 3) (dr4.2.1.mono (by omega)) (by omega) (by omega)).mono ?_
    rintro _ s5 ⟨k, hk, rfl, dr5⟩
    have dr05 := dr04.trans dr5
    have e1k : (1 : Int) + (k : Nat) = ((1 + k : Nat) : Int) := by omega
    have ql : qs.length = sizes.length := by rw [← pq.length_eq, List.length_range]
    have hsp : SpOk sizes (qs.take (1 + k)) := by
      refine ⟨fun z => ?_, fun x hx => ?_, ?_, ?_⟩
      · have := congrArg List.length z
        rw [List.length_take, List.length_nil] at this
        omega
      · exact List.mem_range.mp (pq.mem_iff.mpr (List.mem_of_mem_take hx))
      · exact (pq.nodup_iff.mp List.nodup_range).sublist (List.take_sublist _ _)
      · rw [List.length_take]; omega
    have eN : (.tuple ((qs.map fun i : Nat => PyData.int i).take (1 + k)) : Dt) = Nt (qs.take (1 + k)) := by unfold Nt; rw [List.map_take]
    simp only [dat2_d, wp_ret, bnd_ret, add_int, e1k, wp_opt_some, pureD_d, dat_d, sli_list, cut_to, tuple_list, opt_some, fresh_z, eN, List.set_cons_succ, List.set_cons_zero]
    generalize qs.take (1 + k) = sp at *
    refine step_asg (.d (.list (((rows sizes).filter (pos p)).map Nt))) ?_ ?_
    · have h1 : ∀ w, comp [] (turn1 c_law (.nm 8) [8] (.cons (.cmp .NotEq (.idx (.idx (.var 3) (.con (.int 2))) (.var 8)) (.tup (.cons (.con (.int 0)) (.cons (.con (.int 1)) .nil)))) .nil) (.var 8) [some v, some (.ref n), some (.d (.int x)), some (.d (Tb sizes p)), some (.d (Ev sizes ev)), some (.d (.int (sizes.length : Nat))), some (.d (Nt sp)), w, w8]) ((rows sizes).map fun r => .d (Nt r)) = ret (((rows sizes).filter (pos p)).map Nt) := by
        intro w
        refine lc_filter (pos p) Nt fun r hr => ?_
        simp [idx_Dp hr, R0, pos]
      have hso : b1D .sorted (Dp sizes p) = some (.list ((rows sizes).map Nt)) := by
        unfold Dp; rw [sorted_dict, List.map_map]
        show (sortD ((rows sizes).map Nt)).map PyData.list = _
        rw [sort_rows hz]; rfl
      simp only [c_law] at h1
      simp [hso, Function.comp_def, h1]
    simp only [List.set_cons_succ, List.set_cons_zero]
    rw [exs_cons, ex_for, wp_bnd, wp_bnd]
    have hl36 : ((rows sizes).filter (pos p)).length ≤ 36 := Nat.le_trans (List.length_filter_le _ _) (by rw [len_rows]; exact hz.2.2.2)
    simp only [evi_val, ev_sli, ev_call, evs_cons, evs_nil, ev_var, evo_none, evo_some, ev_con, conD_int, lookEnv_s, lookEnv_z, bnd_ret, bnd_bnd, pureD_d, opt_some, List.getElem?_cons_zero, List.getElem?_cons_succ, wp_bnd, c_law]
    refine (shuffle_of (f := Nt) (l := (rows sizes).filter (pos p)) Nt_ok (b := B + 600) (dr5.2.1.mono (by omega)) (by omega)).mono ?_
    rintro _ s6 ⟨⟨rs, prs, rfl⟩, dr6⟩
    have dr06 := dr05.trans dr6
    have e4 : cut (rs.map Nt) none (some 4) = (rs.take 4).map Nt := by rw [show (some (4 : Int)) = some ((4 : Nat) : Int) from rfl, cut_to, List.map_take]
    simp only [dat_d, wp_ret, bnd_ret, sli_list, e4, wp_opt_some, itemsV_d, items_list, opt_some, List.map_map]
    show wp (floop [] _ (List.map (fun r => Val.d (Nt r)) (rs.take 4)) _) _ _
    have h4 : (rs.take 4).length ≤ 4 := by rw [List.length_take]; omega
    have hmem : ∀ r ∈ rs.take 4, r ∈ rows sizes ∧ p r ≠ 0 := fun r hr => by
      have := prs.mem_iff.mpr (List.mem_of_mem_take hr)
      exact ⟨mf this, by simpa [pos] using (List.mem_filter.mp this).2⟩
    generalize rs.take 4 = rs4 at *
    refine wp_floop (fun rest ρ s => Dr n g (B + 100 * rest.length) s0 s ∧ (∀ r ∈ rest, r ∈ rows sizes ∧ p r ≠ 0) ∧ ∃ w8, ρ = [some v, some (.ref n), some (.d (.int x)), some (.d (Tb sizes p)), some (.d (Ev sizes ev)), some (.d (.int (sizes.length : Nat))), some (.d (Nt sp)), some (.d (.list (((rows sizes).filter (pos p)).map Nt))), w8]) ⟨dr06.mono (by omega), hmem, _, rfl⟩ ?_ ?_
    · rintro r rest _ s7 ⟨dr7, hm, w8, rfl⟩
      refine ⟨held_nil, ?_⟩
      obtain ⟨hr, h0⟩ := hm r (by simp)
      simp only [turnf_app, bind1_nm, bnd_ret, List.set_cons_succ, List.set_cons_zero, exs_cons, ex_ife, ev_not, ev_call, evs_cons, evs_nil, ev_var, lookEnv_s, lookEnv_z, bnd_bnd, List.getElem?_cons_zero, List.getElem?_cons_succ, opt_some, wp_bnd]
      refine (s_law_row_right (b := B + 100 * rest.length) hp hsp hr h0 (dr7.2.1.mono (by simp only [List.length_cons]; omega))).mono ?_
      rintro _ s8 ⟨rfl, dr8⟩
      simp only [asBool_b, wp_ret, bnd_ret, Bool.not_true, Bool.false_eq_true, if_false, exs_nil, andThen_nx]
      exact ⟨dr7.trans dr8, fun r' hr' => hm r' (by simp [hr']), _, rfl⟩
    · rintro _ s7 ⟨dr7, -, w8, rfl⟩
      refine ⟨held_nil, ?_⟩
      simp only [andThen_nx, exs_nil, wp_ret]
      exact ⟨dr7, _, _, _, _, _, _, _, rfl⟩
  · rintro _ s ⟨dr, w2, w3, w4, w5, w6, w7, w8, rfl⟩
    refine ⟨held_nil, ?_⟩
    simp only [andThen_nx]
    refine step_ret (.d (.bool true)) (by simp [s_law_known_right]) ?_
    exact fin s _ (dr.mono (by omega))
theorem s_law_right (ns : List Int) : (∃ st, f_law [.d (.list (ns.map .int))] [] = .ok (.d (.bool true)) st) ∧ ∃ st, f_law [.ref 0] [.kl (ns.map .int)] = .ok (.d (.bool true)) st := by
  constructor
  · obtain ⟨_, s, e, rfl⟩ := wp_iff.mp (s_law (ns := ns) (.inl ⟨rfl, rfl⟩))
    exact ⟨s, e⟩
  · obtain ⟨_, s, e, rfl⟩ := wp_iff.mp (s_law (ns := ns) (.inr ⟨rfl, rfl⟩))
    exact ⟨s, e⟩
end EV.Sp
end

section
set_option autoImplicit false
set_option linter.all false
set_option maxRecDepth 100000
set_option Elab.async false
/-! Ch81: the defs, one behind the other. -/
namespace EV.Sp
open PySem
open L2
def n_law_is_truth : List Str := ["found", "due"]
def m_law_is_truth (sc : Scope) : MC := ⟨n_law_is_truth, sc, fun _ => true, [], [], bltins, true⟩
def n_law_same : List Str := ["found", "due", "waiting", "one", "other", "alike", "key", "left", "right"]
def m_law_same (sc : Scope) : MC := ⟨n_law_same, sc, fun _ => true, ["_law_is_truth"], [], bltins, true⟩
def n_rows_of : List Str := ["sizes", "found", "size", "row", "level"]
def m_rows_of (sc : Scope) : MC := ⟨n_rows_of, sc, fun _ => true, [], [], bltins, true⟩
def n_drawn_rows : List Str := ["table", "row"]
def m_drawn_rows (sc : Scope) : MC := ⟨n_drawn_rows, sc, fun _ => true, ["rows_of"], ["ZERO"], bltins, true⟩
def n_lowest : List Str := ["n", "d", "common"]
def m_lowest (sc : Scope) : MC := ⟨n_lowest, sc, fun _ => true, [], [], bltins, true⟩
def n_over : List Str := ["one", "other"]
def m_over (sc : Scope) : MC := ⟨n_over, sc, fun _ => true, ["lowest"], [], bltins, true⟩
def n_plus : List Str := ["one", "other"]
def m_plus (sc : Scope) : MC := ⟨n_plus, sc, fun _ => true, ["lowest"], [], bltins, true⟩
def n_total : List Str := ["ratios", "found", "each"]
def m_total (sc : Scope) : MC := ⟨n_total, sc, fun _ => true, ["plus"], ["ZERO"], bltins, true⟩
def n_part_of : List Str := ["chances", "event", "row"]
def m_part_of (sc : Scope) : MC := ⟨n_part_of, sc, fun _ => true, ["total"], [], bltins, true⟩
def n_likely_at : List Str := ["table", "event", "still", "place", "level", "own", "row"]
def m_likely_at (sc : Scope) : MC := ⟨n_likely_at, sc, fun _ => true, ["over", "part_of"], [], bltins, true⟩
def n_told_once : List Str := ["table", "event", "still", "place", "level", "levels", "numbers", "own", "row"]
def m_told_once (sc : Scope) : MC := ⟨n_told_once, sc, fun _ => true, ["likely_at"], [], bltins, true⟩
def n_talked : List Str := ["table", "speakers", "event", "row", "still", "told", "calm", "place", "number", "later"]
def m_talked (sc : Scope) : MC := ⟨n_talked, sc, fun _ => true, ["told_once", "drawn_rows"], [], bltins, true⟩
def n_is_whole : List Str := ["value"]
def m_is_whole (sc : Scope) : MC := ⟨n_is_whole, sc, fun _ => true, [], [], bltins, true⟩
def n_is_row : List Str := ["sizes", "value", "level", "size"]
def m_is_row (sc : Scope) : MC := ⟨n_is_row, sc, fun _ => true, ["is_whole"], [], bltins, true⟩
def n_is_event : List Str := ["sizes", "value", "one", "other", "row"]
def m_is_event (sc : Scope) : MC := ⟨n_is_event, sc, fun _ => true, ["is_row"], [], bltins, true⟩
def n_need_event : List Str := ["sizes", "event"]
def m_need_event (sc : Scope) : MC := ⟨n_need_event, sc, fun _ => true, ["is_event"], [], bltins, true⟩
def n_are_speakers : List Str := ["sizes", "value", "place"]
def m_are_speakers (sc : Scope) : MC := ⟨n_are_speakers, sc, fun _ => true, ["is_whole"], [], bltins, true⟩
def n_is_ratio : List Str := ["value", "part"]
def m_is_ratio (sc : Scope) : MC := ⟨n_is_ratio, sc, fun _ => true, ["is_whole"], [], bltins, true⟩
def n_is_chance : List Str := ["value"]
def m_is_chance (sc : Scope) : MC := ⟨n_is_chance, sc, fun _ => true, ["is_ratio"], [], bltins, true⟩
def n_row_count : List Str := ["sizes", "found", "size"]
def m_row_count (sc : Scope) : MC := ⟨n_row_count, sc, fun _ => true, [], [], bltins, true⟩
def n_are_row_keys : List Str := ["sizes", "value", "row"]
def m_are_row_keys (sc : Scope) : MC := ⟨n_are_row_keys, sc, fun _ => true, ["is_row", "row_count"], [], bltins, true⟩
def n_are_levels : List Str := ["value", "size"]
def m_are_levels (sc : Scope) : MC := ⟨n_are_levels, sc, fun _ => true, ["is_whole"], ["MOST_LEVELS", "MOST_THINGS"], bltins, true⟩
def n_is_sizes : List Str := ["value"]
def m_is_sizes (sc : Scope) : MC := ⟨n_is_sizes, sc, fun _ => true, ["row_count", "are_levels"], ["MOST_ROWS"], bltins, true⟩
def n_is_table : List Str := ["value", "row"]
def m_is_table (sc : Scope) : MC := ⟨n_is_table, sc, fun _ => true, ["total", "is_chance", "are_row_keys", "is_sizes"], ["ONE"], bltins, true⟩
def n_need_table : List Str := ["table"]
def m_need_table (sc : Scope) : MC := ⟨n_need_table, sc, fun _ => true, ["is_table"], [], bltins, true⟩
def n_need_talk : List Str := ["table", "speakers", "event"]
def m_need_talk (sc : Scope) : MC := ⟨n_need_talk, sc, fun _ => true, ["need_event", "are_speakers", "need_table"], [], bltins, true⟩
def n_talk_lots : List Str := ["table", "speakers", "event", "found", "row", "told"]
def m_talk_lots (sc : Scope) : MC := ⟨n_talk_lots, sc, fun _ => true, ["drawn_rows", "talked", "need_talk"], [], bltins, true⟩
def n_need_drawn : List Str := ["table", "row"]
def m_need_drawn (sc : Scope) : MC := ⟨n_need_drawn, sc, fun _ => true, ["is_row"], ["ZERO"], bltins, true⟩
def n_talk : List Str := ["table", "speakers", "event", "row"]
def m_talk (sc : Scope) : MC := ⟨n_talk, sc, fun _ => true, ["talked", "need_drawn", "need_talk"], [], bltins, true⟩
def n_left_open : List Str := ["table", "speakers", "event", "row"]
def m_left_open (sc : Scope) : MC := ⟨n_left_open, sc, fun _ => true, ["talked", "need_drawn", "need_talk"], [], bltins, true⟩
def n_law_rows_of : List Str := ["sizes", "found", "size", "longer", "row", "level"]
def m_law_rows_of (sc : Scope) : MC := ⟨n_law_rows_of, sc, fun _ => true, [], [], bltins, true⟩
def n_law_known_right : List Str := ["parts", "table", "event", "told", "due", "lots", "row"]
def m_law_known_right (sc : Scope) : MC := ⟨n_law_known_right, sc, fun _ => true, ["_law_same", "talk_lots", "talk", "left_open", "_law_rows_of"], [], bltins, true⟩
def n_law_blended : List Str := ["state", "turn", "found", "prime", "blend", "cell"]
def m_law_blended (sc : Scope) : MC := ⟨n_law_blended, sc, fun _ => true, [], [], bltins, true⟩
def n_law_draw : List Str := ["state", "room", "found"]
def m_law_draw (sc : Scope) : MC := ⟨n_law_draw, sc, fun _ => true, ["_law_blended"], [], bltins, true⟩
def n_law_shuffled : List Str := ["state", "some", "left", "found"]
def m_law_shuffled (sc : Scope) : MC := ⟨n_law_shuffled, sc, fun _ => true, ["_law_draw"], [], bltins, true⟩
def n_law_all_sequences : List Str := ["some", "found", "spot", "longer", "own", "place"]
def m_law_all_sequences (sc : Scope) : MC := ⟨n_law_all_sequences, sc, fun _ => true, [], [], bltins, true⟩
def n_chance_of : List Str := ["table", "event"]
def m_chance_of (sc : Scope) : MC := ⟨n_chance_of, sc, fun _ => true, ["part_of", "need_event", "need_table"], [], bltins, true⟩
def n_given : List Str := ["table", "event", "part", "found", "row"]
def m_given (sc : Scope) : MC := ⟨n_given, sc, fun _ => true, ["rows_of", "over", "part_of"], ["ZERO"], bltins, true⟩
def n_behind : List Str := ["table", "event"]
def m_behind (sc : Scope) : MC := ⟨n_behind, sc, fun _ => true, ["given", "part_of", "need_event", "need_table"], ["ZERO"], bltins, true⟩
def n_law_q : List Str := ["n", "d", "one", "other"]
def m_law_q (sc : Scope) : MC := ⟨n_law_q, sc, fun _ => true, [], [], bltins, true⟩
def n_law_minus : List Str := ["one", "other"]
def m_law_minus (sc : Scope) : MC := ⟨n_law_minus, sc, fun _ => true, ["_law_q"], [], bltins, true⟩
def n_law_row_right : List Str := ["draws", "table", "speakers", "event", "row", "rows", "told", "still", "beside", "turned_told", "wider", "later", "count", "every", "whole", "number", "sequence", "other"]
def m_law_row_right (sc : Scope) : MC := ⟨n_law_row_right, sc, fun _ => true, ["_law_all_sequences", "chance_of", "behind", "left_open", "talk", "_law_same", "_law_draw", "_law_minus", "_law_rows_of"], [], bltins, true⟩
def n_law_sm_event : List Str := ["draws", "sizes", "row"]
def m_law_sm_event (sc : Scope) : MC := ⟨n_law_sm_event, sc, fun _ => true, ["_law_rows_of", "_law_draw"], [], bltins, true⟩
def n_law_pick : List Str := ["state", "some"]
def m_law_pick (sc : Scope) : MC := ⟨n_law_pick, sc, fun _ => true, ["_law_draw"], [], bltins, true⟩
def n_law_plus : List Str := ["one", "other"]
def m_law_plus (sc : Scope) : MC := ⟨n_law_plus, sc, fun _ => true, ["_law_q"], [], bltins, true⟩
def n_law_times : List Str := ["one", "other"]
def m_law_times (sc : Scope) : MC := ⟨n_law_times, sc, fun _ => true, ["_law_q"], [], bltins, true⟩
def n_law_blend : List Str := ["one", "other", "share", "rest", "row"]
def m_law_blend (sc : Scope) : MC := ⟨n_law_blend, sc, fun _ => true, ["_law_plus", "_law_times", "_law_minus"], [], bltins, true⟩
def n_law_free : List Str := ["beliefs", "found", "row", "worth", "belief", "level"]
def m_law_free (sc : Scope) : MC := ⟨n_law_free, sc, fun _ => true, ["_law_rows_of", "_law_times"], [], bltins, true⟩
def n_law_raised : List Str := ["belief"]
def m_law_raised (sc : Scope) : MC := ⟨n_law_raised, sc, fun _ => true, ["_law_plus"], [], bltins, true⟩
def n_law_levels : List Str := ["draws", "size", "parts", "level", "part"]
def m_law_levels (sc : Scope) : MC := ⟨n_law_levels, sc, fun _ => true, ["_law_q", "_law_draw", "_law_pick"], [], bltins, true⟩
def n_law_table : List Str := ["draws", "sizes", "way", "rows", "beliefs", "parts", "low", "high", "size", "row", "belief", "part"]
def m_law_table (sc : Scope) : MC := ⟨n_law_table, sc, fun _ => true, ["_law_q", "_law_draw", "_law_pick", "_law_blend", "_law_free", "_law_raised", "_law_levels", "_law_rows_of"], [], bltins, true⟩
def n_law_sizes : List Str := ["draws", "most", "some", "sizes"]
def m_law_sizes (sc : Scope) : MC := ⟨n_law_sizes, sc, fun _ => true, ["_law_pick", "_law_rows_of"], [], bltins, true⟩
def n_law_begun : List Str := ["script", "great", "cell"]
def m_law_begun (sc : Scope) : MC := ⟨n_law_begun, sc, fun _ => true, [], [], bltins, true⟩
def n_law : List Str := ["script", "draws", "lap", "table", "event", "count", "speakers", "rows", "row"]
def m_law (sc : Scope) : MC := ⟨n_law, sc, fun _ => true, ["_law_known_right", "_law_shuffled", "_law_row_right", "_law_draw", "_law_sm_event", "_law_table", "_law_sizes", "_law_begun"], [], bltins, true⟩
theorem chk_law_is_truth : mSs (m_law_is_truth (defScope (topx PROG ix_law_is_truth))) b_law_is_truth (defBody (topx PROG ix_law_is_truth)) = true := by decide +kernel
theorem chk_law_same : mSs (m_law_same (defScope (topx PROG ix_law_same))) b_law_same (defBody (topx PROG ix_law_same)) = true := by decide +kernel
theorem chk_rows_of : mSs (m_rows_of (defScope (topx PROG ix_rows_of))) b_rows_of (defBody (topx PROG ix_rows_of)) = true := by decide +kernel
theorem chk_drawn_rows : mSs (m_drawn_rows (defScope (topx PROG ix_drawn_rows))) b_drawn_rows (defBody (topx PROG ix_drawn_rows)) = true := by decide +kernel
theorem chk_lowest : mSs (m_lowest (defScope (topx PROG ix_lowest))) b_lowest (defBody (topx PROG ix_lowest)) = true := by decide +kernel
theorem chk_over : mSs (m_over (defScope (topx PROG ix_over))) b_over (defBody (topx PROG ix_over)) = true := by decide +kernel
theorem chk_plus : mSs (m_plus (defScope (topx PROG ix_plus))) b_plus (defBody (topx PROG ix_plus)) = true := by decide +kernel
theorem chk_total : mSs (m_total (defScope (topx PROG ix_total))) b_total (defBody (topx PROG ix_total)) = true := by decide +kernel
theorem chk_part_of : mSs (m_part_of (defScope (topx PROG ix_part_of))) b_part_of (defBody (topx PROG ix_part_of)) = true := by decide +kernel
theorem chk_likely_at : mSs (m_likely_at (defScope (topx PROG ix_likely_at))) b_likely_at (defBody (topx PROG ix_likely_at)) = true := by decide +kernel
theorem chk_told_once : mSs (m_told_once (defScope (topx PROG ix_told_once))) b_told_once (defBody (topx PROG ix_told_once)) = true := by decide +kernel
theorem chk_talked : mSs (m_talked (defScope (topx PROG ix_talked))) b_talked (defBody (topx PROG ix_talked)) = true := by decide +kernel
theorem chk_is_whole : mSs (m_is_whole (defScope (topx PROG ix_is_whole))) b_is_whole (defBody (topx PROG ix_is_whole)) = true := by decide +kernel
theorem chk_is_row : mSs (m_is_row (defScope (topx PROG ix_is_row))) b_is_row (defBody (topx PROG ix_is_row)) = true := by decide +kernel
theorem chk_is_event : mSs (m_is_event (defScope (topx PROG ix_is_event))) b_is_event (defBody (topx PROG ix_is_event)) = true := by decide +kernel
theorem chk_need_event : mSs (m_need_event (defScope (topx PROG ix_need_event))) b_need_event (defBody (topx PROG ix_need_event)) = true := by decide +kernel
theorem chk_are_speakers : mSs (m_are_speakers (defScope (topx PROG ix_are_speakers))) b_are_speakers (defBody (topx PROG ix_are_speakers)) = true := by decide +kernel
theorem chk_is_ratio : mSs (m_is_ratio (defScope (topx PROG ix_is_ratio))) b_is_ratio (defBody (topx PROG ix_is_ratio)) = true := by decide +kernel
theorem chk_is_chance : mSs (m_is_chance (defScope (topx PROG ix_is_chance))) b_is_chance (defBody (topx PROG ix_is_chance)) = true := by decide +kernel
theorem chk_row_count : mSs (m_row_count (defScope (topx PROG ix_row_count))) b_row_count (defBody (topx PROG ix_row_count)) = true := by decide +kernel
theorem chk_are_row_keys : mSs (m_are_row_keys (defScope (topx PROG ix_are_row_keys))) b_are_row_keys (defBody (topx PROG ix_are_row_keys)) = true := by decide +kernel
theorem chk_are_levels : mSs (m_are_levels (defScope (topx PROG ix_are_levels))) b_are_levels (defBody (topx PROG ix_are_levels)) = true := by decide +kernel
theorem chk_is_sizes : mSs (m_is_sizes (defScope (topx PROG ix_is_sizes))) b_is_sizes (defBody (topx PROG ix_is_sizes)) = true := by decide +kernel
theorem chk_is_table : mSs (m_is_table (defScope (topx PROG ix_is_table))) b_is_table (defBody (topx PROG ix_is_table)) = true := by decide +kernel
theorem chk_need_table : mSs (m_need_table (defScope (topx PROG ix_need_table))) b_need_table (defBody (topx PROG ix_need_table)) = true := by decide +kernel
theorem chk_need_talk : mSs (m_need_talk (defScope (topx PROG ix_need_talk))) b_need_talk (defBody (topx PROG ix_need_talk)) = true := by decide +kernel
theorem chk_talk_lots : mSs (m_talk_lots (defScope (topx PROG ix_talk_lots))) b_talk_lots (defBody (topx PROG ix_talk_lots)) = true := by decide +kernel
theorem chk_need_drawn : mSs (m_need_drawn (defScope (topx PROG ix_need_drawn))) b_need_drawn (defBody (topx PROG ix_need_drawn)) = true := by decide +kernel
theorem chk_talk : mSs (m_talk (defScope (topx PROG ix_talk))) b_talk (defBody (topx PROG ix_talk)) = true := by decide +kernel
theorem chk_left_open : mSs (m_left_open (defScope (topx PROG ix_left_open))) b_left_open (defBody (topx PROG ix_left_open)) = true := by decide +kernel
theorem chk_law_rows_of : mSs (m_law_rows_of (defScope (topx PROG ix_law_rows_of))) b_law_rows_of (defBody (topx PROG ix_law_rows_of)) = true := by decide +kernel
theorem chk_law_known_right : mSs (m_law_known_right (defScope (topx PROG ix_law_known_right))) b_law_known_right (defBody (topx PROG ix_law_known_right)) = true := by decide +kernel
theorem chk_law_blended : mSs (m_law_blended (defScope (topx PROG ix_law_blended))) b_law_blended (defBody (topx PROG ix_law_blended)) = true := by decide +kernel
theorem chk_law_draw : mSs (m_law_draw (defScope (topx PROG ix_law_draw))) b_law_draw (defBody (topx PROG ix_law_draw)) = true := by decide +kernel
theorem chk_law_shuffled : mSs (m_law_shuffled (defScope (topx PROG ix_law_shuffled))) b_law_shuffled (defBody (topx PROG ix_law_shuffled)) = true := by decide +kernel
theorem chk_law_all_sequences : mSs (m_law_all_sequences (defScope (topx PROG ix_law_all_sequences))) b_law_all_sequences (defBody (topx PROG ix_law_all_sequences)) = true := by decide +kernel
theorem chk_chance_of : mSs (m_chance_of (defScope (topx PROG ix_chance_of))) b_chance_of (defBody (topx PROG ix_chance_of)) = true := by decide +kernel
theorem chk_given : mSs (m_given (defScope (topx PROG ix_given))) b_given (defBody (topx PROG ix_given)) = true := by decide +kernel
theorem chk_behind : mSs (m_behind (defScope (topx PROG ix_behind))) b_behind (defBody (topx PROG ix_behind)) = true := by decide +kernel
theorem chk_law_q : mSs (m_law_q (defScope (topx PROG ix_law_q))) b_law_q (defBody (topx PROG ix_law_q)) = true := by decide +kernel
theorem chk_law_minus : mSs (m_law_minus (defScope (topx PROG ix_law_minus))) b_law_minus (defBody (topx PROG ix_law_minus)) = true := by decide +kernel
theorem chk_law_row_right : mSs (m_law_row_right (defScope (topx PROG ix_law_row_right))) b_law_row_right (defBody (topx PROG ix_law_row_right)) = true := by decide +kernel
theorem chk_law_sm_event : mSs (m_law_sm_event (defScope (topx PROG ix_law_sm_event))) b_law_sm_event (defBody (topx PROG ix_law_sm_event)) = true := by decide +kernel
theorem chk_law_pick : mSs (m_law_pick (defScope (topx PROG ix_law_pick))) b_law_pick (defBody (topx PROG ix_law_pick)) = true := by decide +kernel
theorem chk_law_plus : mSs (m_law_plus (defScope (topx PROG ix_law_plus))) b_law_plus (defBody (topx PROG ix_law_plus)) = true := by decide +kernel
theorem chk_law_times : mSs (m_law_times (defScope (topx PROG ix_law_times))) b_law_times (defBody (topx PROG ix_law_times)) = true := by decide +kernel
theorem chk_law_blend : mSs (m_law_blend (defScope (topx PROG ix_law_blend))) b_law_blend (defBody (topx PROG ix_law_blend)) = true := by decide +kernel
theorem chk_law_free : mSs (m_law_free (defScope (topx PROG ix_law_free))) b_law_free (defBody (topx PROG ix_law_free)) = true := by decide +kernel
theorem chk_law_raised : mSs (m_law_raised (defScope (topx PROG ix_law_raised))) b_law_raised (defBody (topx PROG ix_law_raised)) = true := by decide +kernel
theorem chk_law_levels : mSs (m_law_levels (defScope (topx PROG ix_law_levels))) b_law_levels (defBody (topx PROG ix_law_levels)) = true := by decide +kernel
theorem chk_law_table : mSs (m_law_table (defScope (topx PROG ix_law_table))) b_law_table (defBody (topx PROG ix_law_table)) = true := by decide +kernel
theorem chk_law_sizes : mSs (m_law_sizes (defScope (topx PROG ix_law_sizes))) b_law_sizes (defBody (topx PROG ix_law_sizes)) = true := by decide +kernel
theorem chk_law_begun : mSs (m_law_begun (defScope (topx PROG ix_law_begun))) b_law_begun (defBody (topx PROG ix_law_begun)) = true := by decide +kernel
theorem chk_law : mSs (m_law (defScope (topx PROG ix_law))) b_law (defBody (topx PROG ix_law)) = true := by decide +kernel
structure Facts (G : Wd) : Prop where
  bl : ∀ y, y ∈ bltins → G.mg y = none
  gcd : G.mg "gcd" = some (.builtin "math.gcd")
  c_MOST_LEVELS : ConOk G "MOST_LEVELS" (.int 4)
  c_MOST_ROWS : ConOk G "MOST_ROWS" (.int 36)
  c_MOST_THINGS : ConOk G "MOST_THINGS" (.int 4)
  c_ONE : ConOk G "ONE" (.tuple [(.int 1), (.int 1)])
  c_ZERO : ConOk G "ZERO" (.tuple [(.int 0), (.int 1)])
  d_law_is_truth : FnAt G "_law_is_truth" (topx PROG ix_law_is_truth)
  d_law_same : FnAt G "_law_same" (topx PROG ix_law_same)
  d_rows_of : FnAt G "rows_of" (topx PROG ix_rows_of)
  d_drawn_rows : FnAt G "drawn_rows" (topx PROG ix_drawn_rows)
  d_lowest : FnAt G "lowest" (topx PROG ix_lowest)
  d_over : FnAt G "over" (topx PROG ix_over)
  d_plus : FnAt G "plus" (topx PROG ix_plus)
  d_total : FnAt G "total" (topx PROG ix_total)
  d_part_of : FnAt G "part_of" (topx PROG ix_part_of)
  d_likely_at : FnAt G "likely_at" (topx PROG ix_likely_at)
  d_told_once : FnAt G "told_once" (topx PROG ix_told_once)
  d_talked : FnAt G "talked" (topx PROG ix_talked)
  d_is_whole : FnAt G "is_whole" (topx PROG ix_is_whole)
  d_is_row : FnAt G "is_row" (topx PROG ix_is_row)
  d_is_event : FnAt G "is_event" (topx PROG ix_is_event)
  d_need_event : FnAt G "need_event" (topx PROG ix_need_event)
  d_are_speakers : FnAt G "are_speakers" (topx PROG ix_are_speakers)
  d_is_ratio : FnAt G "is_ratio" (topx PROG ix_is_ratio)
  d_is_chance : FnAt G "is_chance" (topx PROG ix_is_chance)
  d_row_count : FnAt G "row_count" (topx PROG ix_row_count)
  d_are_row_keys : FnAt G "are_row_keys" (topx PROG ix_are_row_keys)
  d_are_levels : FnAt G "are_levels" (topx PROG ix_are_levels)
  d_is_sizes : FnAt G "is_sizes" (topx PROG ix_is_sizes)
  d_is_table : FnAt G "is_table" (topx PROG ix_is_table)
  d_need_table : FnAt G "need_table" (topx PROG ix_need_table)
  d_need_talk : FnAt G "need_talk" (topx PROG ix_need_talk)
  d_talk_lots : FnAt G "talk_lots" (topx PROG ix_talk_lots)
  d_need_drawn : FnAt G "need_drawn" (topx PROG ix_need_drawn)
  d_talk : FnAt G "talk" (topx PROG ix_talk)
  d_left_open : FnAt G "left_open" (topx PROG ix_left_open)
  d_law_rows_of : FnAt G "_law_rows_of" (topx PROG ix_law_rows_of)
  d_law_known_right : FnAt G "_law_known_right" (topx PROG ix_law_known_right)
  d_law_blended : FnAt G "_law_blended" (topx PROG ix_law_blended)
  d_law_draw : FnAt G "_law_draw" (topx PROG ix_law_draw)
  d_law_shuffled : FnAt G "_law_shuffled" (topx PROG ix_law_shuffled)
  d_law_all_sequences : FnAt G "_law_all_sequences" (topx PROG ix_law_all_sequences)
  d_chance_of : FnAt G "chance_of" (topx PROG ix_chance_of)
  d_given : FnAt G "given" (topx PROG ix_given)
  d_behind : FnAt G "behind" (topx PROG ix_behind)
  d_law_q : FnAt G "_law_q" (topx PROG ix_law_q)
  d_law_minus : FnAt G "_law_minus" (topx PROG ix_law_minus)
  d_law_row_right : FnAt G "_law_row_right" (topx PROG ix_law_row_right)
  d_law_sm_event : FnAt G "_law_sm_event" (topx PROG ix_law_sm_event)
  d_law_pick : FnAt G "_law_pick" (topx PROG ix_law_pick)
  d_law_plus : FnAt G "_law_plus" (topx PROG ix_law_plus)
  d_law_times : FnAt G "_law_times" (topx PROG ix_law_times)
  d_law_blend : FnAt G "_law_blend" (topx PROG ix_law_blend)
  d_law_free : FnAt G "_law_free" (topx PROG ix_law_free)
  d_law_raised : FnAt G "_law_raised" (topx PROG ix_law_raised)
  d_law_levels : FnAt G "_law_levels" (topx PROG ix_law_levels)
  d_law_table : FnAt G "_law_table" (topx PROG ix_law_table)
  d_law_sizes : FnAt G "_law_sizes" (topx PROG ix_law_sizes)
  d_law_begun : FnAt G "_law_begun" (topx PROG ix_law_begun)
  d_law : FnAt G "law" (topx PROG ix_law)
section
variable {G : Wd} {base : Heap}
theorem ok_law_is_truth (F : Facts G) : DefOk G base 1 "_law_is_truth" f_law_is_truth := by
  obtain ⟨f, fd, D, hm⟩ := F.d_law_is_truth
  exact def_ok (k := 0) (ps := ["found", "due"]) (M := m_law_is_truth _) D ⟨rfl, rfl, rfl, by decide +kernel, rfl, by decide +kernel, by decide +kernel⟩ ⟨rfl, rfl, rfl⟩ rfl rfl (fs_of rfl fs_nil) (gs_of rfl gs_nil) F.bl (fun _ => F.gcd) chk_law_is_truth hm (D.bindsN fun _ _ _ _ _ _ us hl => match us, hl with | [_, _], _ => rfl)
theorem ok_law_same (F : Facts G) : DefOk G base 2 "_law_same" f_law_same := by
  obtain ⟨f, fd, D, hm⟩ := F.d_law_same
  exact def_ok (k := 1) (ps := ["found", "due"]) (M := m_law_same _) D ⟨rfl, rfl, rfl, by decide +kernel, rfl, by decide +kernel, by decide +kernel⟩ ⟨rfl, rfl, rfl⟩ rfl rfl (fs_of rfl (fs_cons (ok_law_is_truth F) (by decide) fs_nil)) (gs_of rfl gs_nil) F.bl (fun _ => F.gcd) chk_law_same hm (D.bindsN fun _ _ _ _ _ _ us hl => match us, hl with | [_, _], _ => rfl)
theorem ok_rows_of (F : Facts G) : DefOk G base 1 "rows_of" f_rows_of := by
  obtain ⟨f, fd, D, hm⟩ := F.d_rows_of
  exact def_ok (k := 0) (ps := ["sizes"]) (M := m_rows_of _) D ⟨rfl, rfl, rfl, by decide +kernel, rfl, by decide +kernel, by decide +kernel⟩ ⟨rfl, rfl, rfl⟩ rfl rfl (fs_of rfl fs_nil) (gs_of rfl gs_nil) F.bl (fun _ => F.gcd) chk_rows_of hm (D.bindsN fun _ _ _ _ _ _ us hl => match us, hl with | [_], _ => rfl)
theorem ok_drawn_rows (F : Facts G) : DefOk G base 2 "drawn_rows" f_drawn_rows := by
  obtain ⟨f, fd, D, hm⟩ := F.d_drawn_rows
  exact def_ok (k := 1) (ps := ["table"]) (M := m_drawn_rows _) D ⟨rfl, rfl, rfl, by decide +kernel, rfl, by decide +kernel, by decide +kernel⟩ ⟨rfl, rfl, rfl⟩ rfl rfl (fs_of rfl (fs_cons (ok_rows_of F) (by decide) fs_nil)) (gs_of rfl (gs_cons F.c_ZERO gs_nil)) F.bl (fun _ => F.gcd) chk_drawn_rows hm (D.bindsN fun _ _ _ _ _ _ us hl => match us, hl with | [_], _ => rfl)
theorem ok_lowest (F : Facts G) : DefOk G base 1 "lowest" f_lowest := by
  obtain ⟨f, fd, D, hm⟩ := F.d_lowest
  exact def_ok (k := 0) (ps := ["n", "d"]) (M := m_lowest _) D ⟨rfl, rfl, rfl, by decide +kernel, rfl, by decide +kernel, by decide +kernel⟩ ⟨rfl, rfl, rfl⟩ rfl rfl (fs_of rfl fs_nil) (gs_of rfl gs_nil) F.bl (fun _ => F.gcd) chk_lowest hm (D.bindsN fun _ _ _ _ _ _ us hl => match us, hl with | [_, _], _ => rfl)
theorem ok_over (F : Facts G) : DefOk G base 2 "over" f_over := by
  obtain ⟨f, fd, D, hm⟩ := F.d_over
  exact def_ok (k := 1) (ps := ["one", "other"]) (M := m_over _) D ⟨rfl, rfl, rfl, by decide +kernel, rfl, by decide +kernel, by decide +kernel⟩ ⟨rfl, rfl, rfl⟩ rfl rfl (fs_of rfl (fs_cons (ok_lowest F) (by decide) fs_nil)) (gs_of rfl gs_nil) F.bl (fun _ => F.gcd) chk_over hm (D.bindsN fun _ _ _ _ _ _ us hl => match us, hl with | [_, _], _ => rfl)
theorem ok_plus (F : Facts G) : DefOk G base 2 "plus" f_plus := by
  obtain ⟨f, fd, D, hm⟩ := F.d_plus
  exact def_ok (k := 1) (ps := ["one", "other"]) (M := m_plus _) D ⟨rfl, rfl, rfl, by decide +kernel, rfl, by decide +kernel, by decide +kernel⟩ ⟨rfl, rfl, rfl⟩ rfl rfl (fs_of rfl (fs_cons (ok_lowest F) (by decide) fs_nil)) (gs_of rfl gs_nil) F.bl (fun _ => F.gcd) chk_plus hm (D.bindsN fun _ _ _ _ _ _ us hl => match us, hl with | [_, _], _ => rfl)
theorem ok_total (F : Facts G) : DefOk G base 3 "total" f_total := by
  obtain ⟨f, fd, D, hm⟩ := F.d_total
  exact def_ok (k := 2) (ps := ["ratios"]) (M := m_total _) D ⟨rfl, rfl, rfl, by decide +kernel, rfl, by decide +kernel, by decide +kernel⟩ ⟨rfl, rfl, rfl⟩ rfl rfl (fs_of rfl (fs_cons (ok_plus F) (by decide) fs_nil)) (gs_of rfl (gs_cons F.c_ZERO gs_nil)) F.bl (fun _ => F.gcd) chk_total hm (D.bindsN fun _ _ _ _ _ _ us hl => match us, hl with | [_], _ => rfl)
theorem ok_part_of (F : Facts G) : DefOk G base 4 "part_of" f_part_of := by
  obtain ⟨f, fd, D, hm⟩ := F.d_part_of
  exact def_ok (k := 3) (ps := ["chances", "event"]) (M := m_part_of _) D ⟨rfl, rfl, rfl, by decide +kernel, rfl, by decide +kernel, by decide +kernel⟩ ⟨rfl, rfl, rfl⟩ rfl rfl (fs_of rfl (fs_cons (ok_total F) (by decide) fs_nil)) (gs_of rfl gs_nil) F.bl (fun _ => F.gcd) chk_part_of hm (D.bindsN fun _ _ _ _ _ _ us hl => match us, hl with | [_, _], _ => rfl)
theorem ok_likely_at (F : Facts G) : DefOk G base 5 "likely_at" f_likely_at := by
  obtain ⟨f, fd, D, hm⟩ := F.d_likely_at
  exact def_ok (k := 4) (ps := ["table", "event", "still", "place", "level"]) (M := m_likely_at _) D ⟨rfl, rfl, rfl, by decide +kernel, rfl, by decide +kernel, by decide +kernel⟩ ⟨rfl, rfl, rfl⟩ rfl rfl (fs_of rfl (fs_cons (ok_over F) (by decide) (fs_cons (ok_part_of F) (by decide) fs_nil))) (gs_of rfl gs_nil) F.bl (fun _ => F.gcd) chk_likely_at hm (D.bindsN fun _ _ _ _ _ _ us hl => match us, hl with | [_, _, _, _, _], _ => rfl)
theorem ok_told_once (F : Facts G) : DefOk G base 6 "told_once" f_told_once := by
  obtain ⟨f, fd, D, hm⟩ := F.d_told_once
  exact def_ok (k := 5) (ps := ["table", "event", "still", "place", "level"]) (M := m_told_once _) D ⟨rfl, rfl, rfl, by decide +kernel, rfl, by decide +kernel, by decide +kernel⟩ ⟨rfl, rfl, rfl⟩ rfl rfl (fs_of rfl (fs_cons (ok_likely_at F) (by decide) fs_nil)) (gs_of rfl gs_nil) F.bl (fun _ => F.gcd) chk_told_once hm (D.bindsN fun _ _ _ _ _ _ us hl => match us, hl with | [_, _, _, _, _], _ => rfl)
theorem ok_talked (F : Facts G) : DefOk G base 7 "talked" f_talked := by
  obtain ⟨f, fd, D, hm⟩ := F.d_talked
  exact def_ok (k := 6) (ps := ["table", "speakers", "event", "row"]) (M := m_talked _) D ⟨rfl, rfl, rfl, by decide +kernel, rfl, by decide +kernel, by decide +kernel⟩ ⟨rfl, rfl, rfl⟩ rfl rfl (fs_of rfl (fs_cons (ok_told_once F) (by decide) (fs_cons (ok_drawn_rows F) (by decide) fs_nil))) (gs_of rfl gs_nil) F.bl (fun _ => F.gcd) chk_talked hm (D.bindsN fun _ _ _ _ _ _ us hl => match us, hl with | [_, _, _, _], _ => rfl)
theorem ok_is_whole (F : Facts G) : DefOk G base 1 "is_whole" f_is_whole := by
  obtain ⟨f, fd, D, hm⟩ := F.d_is_whole
  exact def_ok (k := 0) (ps := ["value"]) (M := m_is_whole _) D ⟨rfl, rfl, rfl, by decide +kernel, rfl, by decide +kernel, by decide +kernel⟩ ⟨rfl, rfl, rfl⟩ rfl rfl (fs_of rfl fs_nil) (gs_of rfl gs_nil) F.bl (fun _ => F.gcd) chk_is_whole hm (D.bindsN fun _ _ _ _ _ _ us hl => match us, hl with | [_], _ => rfl)
theorem ok_is_row (F : Facts G) : DefOk G base 2 "is_row" f_is_row := by
  obtain ⟨f, fd, D, hm⟩ := F.d_is_row
  exact def_ok (k := 1) (ps := ["sizes", "value"]) (M := m_is_row _) D ⟨rfl, rfl, rfl, by decide +kernel, rfl, by decide +kernel, by decide +kernel⟩ ⟨rfl, rfl, rfl⟩ rfl rfl (fs_of rfl (fs_cons (ok_is_whole F) (by decide) fs_nil)) (gs_of rfl gs_nil) F.bl (fun _ => F.gcd) chk_is_row hm (D.bindsN fun _ _ _ _ _ _ us hl => match us, hl with | [_, _], _ => rfl)
theorem ok_is_event (F : Facts G) : DefOk G base 3 "is_event" f_is_event := by
  obtain ⟨f, fd, D, hm⟩ := F.d_is_event
  exact def_ok (k := 2) (ps := ["sizes", "value"]) (M := m_is_event _) D ⟨rfl, rfl, rfl, by decide +kernel, rfl, by decide +kernel, by decide +kernel⟩ ⟨rfl, rfl, rfl⟩ rfl rfl (fs_of rfl (fs_cons (ok_is_row F) (by decide) fs_nil)) (gs_of rfl gs_nil) F.bl (fun _ => F.gcd) chk_is_event hm (D.bindsN fun _ _ _ _ _ _ us hl => match us, hl with | [_, _], _ => rfl)
theorem ok_need_event (F : Facts G) : DefOk G base 4 "need_event" f_need_event := by
  obtain ⟨f, fd, D, hm⟩ := F.d_need_event
  exact def_ok (k := 3) (ps := ["sizes", "event"]) (M := m_need_event _) D ⟨rfl, rfl, rfl, by decide +kernel, rfl, by decide +kernel, by decide +kernel⟩ ⟨rfl, rfl, rfl⟩ rfl rfl (fs_of rfl (fs_cons (ok_is_event F) (by decide) fs_nil)) (gs_of rfl gs_nil) F.bl (fun _ => F.gcd) chk_need_event hm (D.bindsN fun _ _ _ _ _ _ us hl => match us, hl with | [_, _], _ => rfl)
theorem ok_are_speakers (F : Facts G) : DefOk G base 2 "are_speakers" f_are_speakers := by
  obtain ⟨f, fd, D, hm⟩ := F.d_are_speakers
  exact def_ok (k := 1) (ps := ["sizes", "value"]) (M := m_are_speakers _) D ⟨rfl, rfl, rfl, by decide +kernel, rfl, by decide +kernel, by decide +kernel⟩ ⟨rfl, rfl, rfl⟩ rfl rfl (fs_of rfl (fs_cons (ok_is_whole F) (by decide) fs_nil)) (gs_of rfl gs_nil) F.bl (fun _ => F.gcd) chk_are_speakers hm (D.bindsN fun _ _ _ _ _ _ us hl => match us, hl with | [_, _], _ => rfl)
theorem ok_is_ratio (F : Facts G) : DefOk G base 2 "is_ratio" f_is_ratio := by
  obtain ⟨f, fd, D, hm⟩ := F.d_is_ratio
  exact def_ok (k := 1) (ps := ["value"]) (M := m_is_ratio _) D ⟨rfl, rfl, rfl, by decide +kernel, rfl, by decide +kernel, by decide +kernel⟩ ⟨rfl, rfl, rfl⟩ rfl rfl (fs_of rfl (fs_cons (ok_is_whole F) (by decide) fs_nil)) (gs_of rfl gs_nil) F.bl (fun _ => F.gcd) chk_is_ratio hm (D.bindsN fun _ _ _ _ _ _ us hl => match us, hl with | [_], _ => rfl)
theorem ok_is_chance (F : Facts G) : DefOk G base 3 "is_chance" f_is_chance := by
  obtain ⟨f, fd, D, hm⟩ := F.d_is_chance
  exact def_ok (k := 2) (ps := ["value"]) (M := m_is_chance _) D ⟨rfl, rfl, rfl, by decide +kernel, rfl, by decide +kernel, by decide +kernel⟩ ⟨rfl, rfl, rfl⟩ rfl rfl (fs_of rfl (fs_cons (ok_is_ratio F) (by decide) fs_nil)) (gs_of rfl gs_nil) F.bl (fun _ => F.gcd) chk_is_chance hm (D.bindsN fun _ _ _ _ _ _ us hl => match us, hl with | [_], _ => rfl)
theorem ok_row_count (F : Facts G) : DefOk G base 1 "row_count" f_row_count := by
  obtain ⟨f, fd, D, hm⟩ := F.d_row_count
  exact def_ok (k := 0) (ps := ["sizes"]) (M := m_row_count _) D ⟨rfl, rfl, rfl, by decide +kernel, rfl, by decide +kernel, by decide +kernel⟩ ⟨rfl, rfl, rfl⟩ rfl rfl (fs_of rfl fs_nil) (gs_of rfl gs_nil) F.bl (fun _ => F.gcd) chk_row_count hm (D.bindsN fun _ _ _ _ _ _ us hl => match us, hl with | [_], _ => rfl)
theorem ok_are_row_keys (F : Facts G) : DefOk G base 3 "are_row_keys" f_are_row_keys := by
  obtain ⟨f, fd, D, hm⟩ := F.d_are_row_keys
  exact def_ok (k := 2) (ps := ["sizes", "value"]) (M := m_are_row_keys _) D ⟨rfl, rfl, rfl, by decide +kernel, rfl, by decide +kernel, by decide +kernel⟩ ⟨rfl, rfl, rfl⟩ rfl rfl (fs_of rfl (fs_cons (ok_is_row F) (by decide) (fs_cons (ok_row_count F) (by decide) fs_nil))) (gs_of rfl gs_nil) F.bl (fun _ => F.gcd) chk_are_row_keys hm (D.bindsN fun _ _ _ _ _ _ us hl => match us, hl with | [_, _], _ => rfl)
theorem ok_are_levels (F : Facts G) : DefOk G base 2 "are_levels" f_are_levels := by
  obtain ⟨f, fd, D, hm⟩ := F.d_are_levels
  exact def_ok (k := 1) (ps := ["value"]) (M := m_are_levels _) D ⟨rfl, rfl, rfl, by decide +kernel, rfl, by decide +kernel, by decide +kernel⟩ ⟨rfl, rfl, rfl⟩ rfl rfl (fs_of rfl (fs_cons (ok_is_whole F) (by decide) fs_nil)) (gs_of rfl (gs_cons F.c_MOST_LEVELS (gs_cons F.c_MOST_THINGS gs_nil))) F.bl (fun _ => F.gcd) chk_are_levels hm (D.bindsN fun _ _ _ _ _ _ us hl => match us, hl with | [_], _ => rfl)
theorem ok_is_sizes (F : Facts G) : DefOk G base 3 "is_sizes" f_is_sizes := by
  obtain ⟨f, fd, D, hm⟩ := F.d_is_sizes
  exact def_ok (k := 2) (ps := ["value"]) (M := m_is_sizes _) D ⟨rfl, rfl, rfl, by decide +kernel, rfl, by decide +kernel, by decide +kernel⟩ ⟨rfl, rfl, rfl⟩ rfl rfl (fs_of rfl (fs_cons (ok_row_count F) (by decide) (fs_cons (ok_are_levels F) (by decide) fs_nil))) (gs_of rfl (gs_cons F.c_MOST_ROWS gs_nil)) F.bl (fun _ => F.gcd) chk_is_sizes hm (D.bindsN fun _ _ _ _ _ _ us hl => match us, hl with | [_], _ => rfl)
theorem ok_is_table (F : Facts G) : DefOk G base 4 "is_table" f_is_table := by
  obtain ⟨f, fd, D, hm⟩ := F.d_is_table
  exact def_ok (k := 3) (ps := ["value"]) (M := m_is_table _) D ⟨rfl, rfl, rfl, by decide +kernel, rfl, by decide +kernel, by decide +kernel⟩ ⟨rfl, rfl, rfl⟩ rfl rfl (fs_of rfl (fs_cons (ok_total F) (by decide) (fs_cons (ok_is_chance F) (by decide) (fs_cons (ok_are_row_keys F) (by decide) (fs_cons (ok_is_sizes F) (by decide) fs_nil))))) (gs_of rfl (gs_cons F.c_ONE gs_nil)) F.bl (fun _ => F.gcd) chk_is_table hm (D.bindsN fun _ _ _ _ _ _ us hl => match us, hl with | [_], _ => rfl)
theorem ok_need_table (F : Facts G) : DefOk G base 5 "need_table" f_need_table := by
  obtain ⟨f, fd, D, hm⟩ := F.d_need_table
  exact def_ok (k := 4) (ps := ["table"]) (M := m_need_table _) D ⟨rfl, rfl, rfl, by decide +kernel, rfl, by decide +kernel, by decide +kernel⟩ ⟨rfl, rfl, rfl⟩ rfl rfl (fs_of rfl (fs_cons (ok_is_table F) (by decide) fs_nil)) (gs_of rfl gs_nil) F.bl (fun _ => F.gcd) chk_need_table hm (D.bindsN fun _ _ _ _ _ _ us hl => match us, hl with | [_], _ => rfl)
theorem ok_need_talk (F : Facts G) : DefOk G base 6 "need_talk" f_need_talk := by
  obtain ⟨f, fd, D, hm⟩ := F.d_need_talk
  exact def_ok (k := 5) (ps := ["table", "speakers", "event"]) (M := m_need_talk _) D ⟨rfl, rfl, rfl, by decide +kernel, rfl, by decide +kernel, by decide +kernel⟩ ⟨rfl, rfl, rfl⟩ rfl rfl (fs_of rfl (fs_cons (ok_need_event F) (by decide) (fs_cons (ok_are_speakers F) (by decide) (fs_cons (ok_need_table F) (by decide) fs_nil)))) (gs_of rfl gs_nil) F.bl (fun _ => F.gcd) chk_need_talk hm (D.bindsN fun _ _ _ _ _ _ us hl => match us, hl with | [_, _, _], _ => rfl)
theorem ok_talk_lots (F : Facts G) : DefOk G base 8 "talk_lots" f_talk_lots := by
  obtain ⟨f, fd, D, hm⟩ := F.d_talk_lots
  exact def_ok (k := 7) (ps := ["table", "speakers", "event"]) (M := m_talk_lots _) D ⟨rfl, rfl, rfl, by decide +kernel, rfl, by decide +kernel, by decide +kernel⟩ ⟨rfl, rfl, rfl⟩ rfl rfl (fs_of rfl (fs_cons (ok_drawn_rows F) (by decide) (fs_cons (ok_talked F) (by decide) (fs_cons (ok_need_talk F) (by decide) fs_nil)))) (gs_of rfl gs_nil) F.bl (fun _ => F.gcd) chk_talk_lots hm (D.bindsN fun _ _ _ _ _ _ us hl => match us, hl with | [_, _, _], _ => rfl)
theorem ok_need_drawn (F : Facts G) : DefOk G base 3 "need_drawn" f_need_drawn := by
  obtain ⟨f, fd, D, hm⟩ := F.d_need_drawn
  exact def_ok (k := 2) (ps := ["table", "row"]) (M := m_need_drawn _) D ⟨rfl, rfl, rfl, by decide +kernel, rfl, by decide +kernel, by decide +kernel⟩ ⟨rfl, rfl, rfl⟩ rfl rfl (fs_of rfl (fs_cons (ok_is_row F) (by decide) fs_nil)) (gs_of rfl (gs_cons F.c_ZERO gs_nil)) F.bl (fun _ => F.gcd) chk_need_drawn hm (D.bindsN fun _ _ _ _ _ _ us hl => match us, hl with | [_, _], _ => rfl)
theorem ok_talk (F : Facts G) : DefOk G base 8 "talk" f_talk := by
  obtain ⟨f, fd, D, hm⟩ := F.d_talk
  exact def_ok (k := 7) (ps := ["table", "speakers", "event", "row"]) (M := m_talk _) D ⟨rfl, rfl, rfl, by decide +kernel, rfl, by decide +kernel, by decide +kernel⟩ ⟨rfl, rfl, rfl⟩ rfl rfl (fs_of rfl (fs_cons (ok_talked F) (by decide) (fs_cons (ok_need_drawn F) (by decide) (fs_cons (ok_need_talk F) (by decide) fs_nil)))) (gs_of rfl gs_nil) F.bl (fun _ => F.gcd) chk_talk hm (D.bindsN fun _ _ _ _ _ _ us hl => match us, hl with | [_, _, _, _], _ => rfl)
theorem ok_left_open (F : Facts G) : DefOk G base 8 "left_open" f_left_open := by
  obtain ⟨f, fd, D, hm⟩ := F.d_left_open
  exact def_ok (k := 7) (ps := ["table", "speakers", "event", "row"]) (M := m_left_open _) D ⟨rfl, rfl, rfl, by decide +kernel, rfl, by decide +kernel, by decide +kernel⟩ ⟨rfl, rfl, rfl⟩ rfl rfl (fs_of rfl (fs_cons (ok_talked F) (by decide) (fs_cons (ok_need_drawn F) (by decide) (fs_cons (ok_need_talk F) (by decide) fs_nil)))) (gs_of rfl gs_nil) F.bl (fun _ => F.gcd) chk_left_open hm (D.bindsN fun _ _ _ _ _ _ us hl => match us, hl with | [_, _, _, _], _ => rfl)
theorem ok_law_rows_of (F : Facts G) : DefOk G base 1 "_law_rows_of" f_law_rows_of := by
  obtain ⟨f, fd, D, hm⟩ := F.d_law_rows_of
  exact def_ok (k := 0) (ps := ["sizes"]) (M := m_law_rows_of _) D ⟨rfl, rfl, rfl, by decide +kernel, rfl, by decide +kernel, by decide +kernel⟩ ⟨rfl, rfl, rfl⟩ rfl rfl (fs_of rfl fs_nil) (gs_of rfl gs_nil) F.bl (fun _ => F.gcd) chk_law_rows_of hm (D.bindsN fun _ _ _ _ _ _ us hl => match us, hl with | [_], _ => rfl)
theorem ok_law_known_right (F : Facts G) : DefOk G base 9 "_law_known_right" f_law_known_right := by
  obtain ⟨f, fd, D, hm⟩ := F.d_law_known_right
  exact def_ok (k := 8) (ps := []) (M := m_law_known_right _) D ⟨rfl, rfl, rfl, by decide +kernel, rfl, by decide +kernel, by decide +kernel⟩ ⟨rfl, rfl, rfl⟩ rfl rfl (fs_of rfl (fs_cons (ok_law_same F) (by decide) (fs_cons (ok_talk_lots F) (by decide) (fs_cons (ok_talk F) (by decide) (fs_cons (ok_left_open F) (by decide) (fs_cons (ok_law_rows_of F) (by decide) fs_nil)))))) (gs_of rfl gs_nil) F.bl (fun _ => F.gcd) chk_law_known_right hm (D.bindsN fun _ _ _ _ _ _ us hl => match us, hl with | [], _ => rfl)
theorem ok_law_blended (F : Facts G) : DefOk G base 1 "_law_blended" f_law_blended := by
  obtain ⟨f, fd, D, hm⟩ := F.d_law_blended
  exact def_ok (k := 0) (ps := ["state"]) (M := m_law_blended _) D ⟨rfl, rfl, rfl, by decide +kernel, rfl, by decide +kernel, by decide +kernel⟩ ⟨rfl, rfl, rfl⟩ rfl rfl (fs_of rfl fs_nil) (gs_of rfl gs_nil) F.bl (fun _ => F.gcd) chk_law_blended hm (D.bindsN fun _ _ _ _ _ _ us hl => match us, hl with | [_], _ => rfl)
theorem ok_law_draw (F : Facts G) : DefOk G base 2 "_law_draw" f_law_draw := by
  obtain ⟨f, fd, D, hm⟩ := F.d_law_draw
  exact def_ok (k := 1) (ps := ["state", "room"]) (M := m_law_draw _) D ⟨rfl, rfl, rfl, by decide +kernel, rfl, by decide +kernel, by decide +kernel⟩ ⟨rfl, rfl, rfl⟩ rfl rfl (fs_of rfl (fs_cons (ok_law_blended F) (by decide) fs_nil)) (gs_of rfl gs_nil) F.bl (fun _ => F.gcd) chk_law_draw hm (D.bindsN fun _ _ _ _ _ _ us hl => match us, hl with | [_, _], _ => rfl)
theorem ok_law_shuffled (F : Facts G) : DefOk G base 3 "_law_shuffled" f_law_shuffled := by
  obtain ⟨f, fd, D, hm⟩ := F.d_law_shuffled
  exact def_ok (k := 2) (ps := ["state", "some"]) (M := m_law_shuffled _) D ⟨rfl, rfl, rfl, by decide +kernel, rfl, by decide +kernel, by decide +kernel⟩ ⟨rfl, rfl, rfl⟩ rfl rfl (fs_of rfl (fs_cons (ok_law_draw F) (by decide) fs_nil)) (gs_of rfl gs_nil) F.bl (fun _ => F.gcd) chk_law_shuffled hm (D.bindsN fun _ _ _ _ _ _ us hl => match us, hl with | [_, _], _ => rfl)
theorem ok_law_all_sequences (F : Facts G) : DefOk G base 1 "_law_all_sequences" f_law_all_sequences := by
  obtain ⟨f, fd, D, hm⟩ := F.d_law_all_sequences
  exact def_ok (k := 0) (ps := ["some"]) (M := m_law_all_sequences _) D ⟨rfl, rfl, rfl, by decide +kernel, rfl, by decide +kernel, by decide +kernel⟩ ⟨rfl, rfl, rfl⟩ rfl rfl (fs_of rfl fs_nil) (gs_of rfl gs_nil) F.bl (fun _ => F.gcd) chk_law_all_sequences hm (D.bindsN fun _ _ _ _ _ _ us hl => match us, hl with | [_], _ => rfl)
theorem ok_chance_of (F : Facts G) : DefOk G base 6 "chance_of" f_chance_of := by
  obtain ⟨f, fd, D, hm⟩ := F.d_chance_of
  exact def_ok (k := 5) (ps := ["table", "event"]) (M := m_chance_of _) D ⟨rfl, rfl, rfl, by decide +kernel, rfl, by decide +kernel, by decide +kernel⟩ ⟨rfl, rfl, rfl⟩ rfl rfl (fs_of rfl (fs_cons (ok_part_of F) (by decide) (fs_cons (ok_need_event F) (by decide) (fs_cons (ok_need_table F) (by decide) fs_nil)))) (gs_of rfl gs_nil) F.bl (fun _ => F.gcd) chk_chance_of hm (D.bindsN fun _ _ _ _ _ _ us hl => match us, hl with | [_, _], _ => rfl)
theorem ok_given (F : Facts G) : DefOk G base 5 "given" f_given := by
  obtain ⟨f, fd, D, hm⟩ := F.d_given
  exact def_ok (k := 4) (ps := ["table", "event"]) (M := m_given _) D ⟨rfl, rfl, rfl, by decide +kernel, rfl, by decide +kernel, by decide +kernel⟩ ⟨rfl, rfl, rfl⟩ rfl rfl (fs_of rfl (fs_cons (ok_rows_of F) (by decide) (fs_cons (ok_over F) (by decide) (fs_cons (ok_part_of F) (by decide) fs_nil)))) (gs_of rfl (gs_cons F.c_ZERO gs_nil)) F.bl (fun _ => F.gcd) chk_given hm (D.bindsN fun _ _ _ _ _ _ us hl => match us, hl with | [_, _], _ => rfl)
theorem ok_behind (F : Facts G) : DefOk G base 6 "behind" f_behind := by
  obtain ⟨f, fd, D, hm⟩ := F.d_behind
  exact def_ok (k := 5) (ps := ["table", "event"]) (M := m_behind _) D ⟨rfl, rfl, rfl, by decide +kernel, rfl, by decide +kernel, by decide +kernel⟩ ⟨rfl, rfl, rfl⟩ rfl rfl (fs_of rfl (fs_cons (ok_given F) (by decide) (fs_cons (ok_part_of F) (by decide) (fs_cons (ok_need_event F) (by decide) (fs_cons (ok_need_table F) (by decide) fs_nil))))) (gs_of rfl (gs_cons F.c_ZERO gs_nil)) F.bl (fun _ => F.gcd) chk_behind hm (D.bindsN fun _ _ _ _ _ _ us hl => match us, hl with | [_, _], _ => rfl)
theorem ok_law_q (F : Facts G) : DefOk G base 1 "_law_q" f_law_q := by
  obtain ⟨f, fd, D, hm⟩ := F.d_law_q
  exact def_ok (k := 0) (ps := ["n", "d"]) (M := m_law_q _) D ⟨rfl, rfl, rfl, by decide +kernel, rfl, by decide +kernel, by decide +kernel⟩ ⟨rfl, rfl, rfl⟩ rfl rfl (fs_of rfl fs_nil) (gs_of rfl gs_nil) F.bl (fun _ => F.gcd) chk_law_q hm (D.bindsN fun _ _ _ _ _ _ us hl => match us, hl with | [_, _], _ => rfl)
theorem ok_law_minus (F : Facts G) : DefOk G base 2 "_law_minus" f_law_minus := by
  obtain ⟨f, fd, D, hm⟩ := F.d_law_minus
  exact def_ok (k := 1) (ps := ["one", "other"]) (M := m_law_minus _) D ⟨rfl, rfl, rfl, by decide +kernel, rfl, by decide +kernel, by decide +kernel⟩ ⟨rfl, rfl, rfl⟩ rfl rfl (fs_of rfl (fs_cons (ok_law_q F) (by decide) fs_nil)) (gs_of rfl gs_nil) F.bl (fun _ => F.gcd) chk_law_minus hm (D.bindsN fun _ _ _ _ _ _ us hl => match us, hl with | [_, _], _ => rfl)
theorem ok_law_row_right (F : Facts G) : DefOk G base 9 "_law_row_right" f_law_row_right := by
  obtain ⟨f, fd, D, hm⟩ := F.d_law_row_right
  exact def_ok (k := 8) (ps := ["draws", "table", "speakers", "event", "row"]) (M := m_law_row_right _) D ⟨rfl, rfl, rfl, by decide +kernel, rfl, by decide +kernel, by decide +kernel⟩ ⟨rfl, rfl, rfl⟩ rfl rfl (fs_of rfl (fs_cons (ok_law_all_sequences F) (by decide) (fs_cons (ok_chance_of F) (by decide) (fs_cons (ok_behind F) (by decide) (fs_cons (ok_left_open F) (by decide) (fs_cons (ok_talk F) (by decide) (fs_cons (ok_law_same F) (by decide) (fs_cons (ok_law_draw F) (by decide) (fs_cons (ok_law_minus F) (by decide) (fs_cons (ok_law_rows_of F) (by decide) fs_nil)))))))))) (gs_of rfl gs_nil) F.bl (fun _ => F.gcd) chk_law_row_right hm (D.bindsN fun _ _ _ _ _ _ us hl => match us, hl with | [_, _, _, _, _], _ => rfl)
theorem ok_law_sm_event (F : Facts G) : DefOk G base 3 "_law_sm_event" f_law_sm_event := by
  obtain ⟨f, fd, D, hm⟩ := F.d_law_sm_event
  exact def_ok (k := 2) (ps := ["draws", "sizes"]) (M := m_law_sm_event _) D ⟨rfl, rfl, rfl, by decide +kernel, rfl, by decide +kernel, by decide +kernel⟩ ⟨rfl, rfl, rfl⟩ rfl rfl (fs_of rfl (fs_cons (ok_law_rows_of F) (by decide) (fs_cons (ok_law_draw F) (by decide) fs_nil))) (gs_of rfl gs_nil) F.bl (fun _ => F.gcd) chk_law_sm_event hm (D.bindsN fun _ _ _ _ _ _ us hl => match us, hl with | [_, _], _ => rfl)
theorem ok_law_pick (F : Facts G) : DefOk G base 3 "_law_pick" f_law_pick := by
  obtain ⟨f, fd, D, hm⟩ := F.d_law_pick
  exact def_ok (k := 2) (ps := ["state", "some"]) (M := m_law_pick _) D ⟨rfl, rfl, rfl, by decide +kernel, rfl, by decide +kernel, by decide +kernel⟩ ⟨rfl, rfl, rfl⟩ rfl rfl (fs_of rfl (fs_cons (ok_law_draw F) (by decide) fs_nil)) (gs_of rfl gs_nil) F.bl (fun _ => F.gcd) chk_law_pick hm (D.bindsN fun _ _ _ _ _ _ us hl => match us, hl with | [_, _], _ => rfl)
theorem ok_law_plus (F : Facts G) : DefOk G base 2 "_law_plus" f_law_plus := by
  obtain ⟨f, fd, D, hm⟩ := F.d_law_plus
  exact def_ok (k := 1) (ps := ["one", "other"]) (M := m_law_plus _) D ⟨rfl, rfl, rfl, by decide +kernel, rfl, by decide +kernel, by decide +kernel⟩ ⟨rfl, rfl, rfl⟩ rfl rfl (fs_of rfl (fs_cons (ok_law_q F) (by decide) fs_nil)) (gs_of rfl gs_nil) F.bl (fun _ => F.gcd) chk_law_plus hm (D.bindsN fun _ _ _ _ _ _ us hl => match us, hl with | [_, _], _ => rfl)
theorem ok_law_times (F : Facts G) : DefOk G base 2 "_law_times" f_law_times := by
  obtain ⟨f, fd, D, hm⟩ := F.d_law_times
  exact def_ok (k := 1) (ps := ["one", "other"]) (M := m_law_times _) D ⟨rfl, rfl, rfl, by decide +kernel, rfl, by decide +kernel, by decide +kernel⟩ ⟨rfl, rfl, rfl⟩ rfl rfl (fs_of rfl (fs_cons (ok_law_q F) (by decide) fs_nil)) (gs_of rfl gs_nil) F.bl (fun _ => F.gcd) chk_law_times hm (D.bindsN fun _ _ _ _ _ _ us hl => match us, hl with | [_, _], _ => rfl)
theorem ok_law_blend (F : Facts G) : DefOk G base 3 "_law_blend" f_law_blend := by
  obtain ⟨f, fd, D, hm⟩ := F.d_law_blend
  exact def_ok (k := 2) (ps := ["one", "other", "share"]) (M := m_law_blend _) D ⟨rfl, rfl, rfl, by decide +kernel, rfl, by decide +kernel, by decide +kernel⟩ ⟨rfl, rfl, rfl⟩ rfl rfl (fs_of rfl (fs_cons (ok_law_plus F) (by decide) (fs_cons (ok_law_times F) (by decide) (fs_cons (ok_law_minus F) (by decide) fs_nil)))) (gs_of rfl gs_nil) F.bl (fun _ => F.gcd) chk_law_blend hm (D.bindsN fun _ _ _ _ _ _ us hl => match us, hl with | [_, _, _], _ => rfl)
theorem ok_law_free (F : Facts G) : DefOk G base 3 "_law_free" f_law_free := by
  obtain ⟨f, fd, D, hm⟩ := F.d_law_free
  exact def_ok (k := 2) (ps := ["beliefs"]) (M := m_law_free _) D ⟨rfl, rfl, rfl, by decide +kernel, rfl, by decide +kernel, by decide +kernel⟩ ⟨rfl, rfl, rfl⟩ rfl rfl (fs_of rfl (fs_cons (ok_law_rows_of F) (by decide) (fs_cons (ok_law_times F) (by decide) fs_nil))) (gs_of rfl gs_nil) F.bl (fun _ => F.gcd) chk_law_free hm (D.bindsN fun _ _ _ _ _ _ us hl => match us, hl with | [_], _ => rfl)
theorem ok_law_raised (F : Facts G) : DefOk G base 3 "_law_raised" f_law_raised := by
  obtain ⟨f, fd, D, hm⟩ := F.d_law_raised
  exact def_ok (k := 2) (ps := ["belief"]) (M := m_law_raised _) D ⟨rfl, rfl, rfl, by decide +kernel, rfl, by decide +kernel, by decide +kernel⟩ ⟨rfl, rfl, rfl⟩ rfl rfl (fs_of rfl (fs_cons (ok_law_plus F) (by decide) fs_nil)) (gs_of rfl gs_nil) F.bl (fun _ => F.gcd) chk_law_raised hm (D.bindsN fun _ _ _ _ _ _ us hl => match us, hl with | [_], _ => rfl)
theorem ok_law_levels (F : Facts G) : DefOk G base 4 "_law_levels" f_law_levels := by
  obtain ⟨f, fd, D, hm⟩ := F.d_law_levels
  exact def_ok (k := 3) (ps := ["draws", "size"]) (M := m_law_levels _) D ⟨rfl, rfl, rfl, by decide +kernel, rfl, by decide +kernel, by decide +kernel⟩ ⟨rfl, rfl, rfl⟩ rfl rfl (fs_of rfl (fs_cons (ok_law_q F) (by decide) (fs_cons (ok_law_draw F) (by decide) (fs_cons (ok_law_pick F) (by decide) fs_nil)))) (gs_of rfl gs_nil) F.bl (fun _ => F.gcd) chk_law_levels hm (D.bindsN fun _ _ _ _ _ _ us hl => match us, hl with | [_, _], _ => rfl)
theorem ok_law_table (F : Facts G) : DefOk G base 5 "_law_table" f_law_table := by
  obtain ⟨f, fd, D, hm⟩ := F.d_law_table
  exact def_ok (k := 4) (ps := ["draws", "sizes"]) (M := m_law_table _) D ⟨rfl, rfl, rfl, by decide +kernel, rfl, by decide +kernel, by decide +kernel⟩ ⟨rfl, rfl, rfl⟩ rfl rfl (fs_of rfl (fs_cons (ok_law_q F) (by decide) (fs_cons (ok_law_draw F) (by decide) (fs_cons (ok_law_pick F) (by decide) (fs_cons (ok_law_blend F) (by decide) (fs_cons (ok_law_free F) (by decide) (fs_cons (ok_law_raised F) (by decide) (fs_cons (ok_law_levels F) (by decide) (fs_cons (ok_law_rows_of F) (by decide) fs_nil))))))))) (gs_of rfl gs_nil) F.bl (fun _ => F.gcd) chk_law_table hm (D.bindsN fun _ _ _ _ _ _ us hl => match us, hl with | [_, _], _ => rfl)
theorem ok_law_sizes (F : Facts G) : DefOk G base 4 "_law_sizes" f_law_sizes := by
  obtain ⟨f, fd, D, hm⟩ := F.d_law_sizes
  exact def_ok (k := 3) (ps := ["draws", "most"]) (M := m_law_sizes _) D ⟨rfl, rfl, rfl, by decide +kernel, rfl, by decide +kernel, by decide +kernel⟩ ⟨rfl, rfl, rfl⟩ rfl rfl (fs_of rfl (fs_cons (ok_law_pick F) (by decide) (fs_cons (ok_law_rows_of F) (by decide) fs_nil))) (gs_of rfl gs_nil) F.bl (fun _ => F.gcd) chk_law_sizes hm (D.bindsN fun _ _ _ _ _ _ us hl => match us, hl with | [_, _], _ => rfl)
theorem ok_law_begun (F : Facts G) : DefOk G base 1 "_law_begun" f_law_begun := by
  obtain ⟨f, fd, D, hm⟩ := F.d_law_begun
  exact def_ok (k := 0) (ps := ["script"]) (M := m_law_begun _) D ⟨rfl, rfl, rfl, by decide +kernel, rfl, by decide +kernel, by decide +kernel⟩ ⟨rfl, rfl, rfl⟩ rfl rfl (fs_of rfl fs_nil) (gs_of rfl gs_nil) F.bl (fun _ => F.gcd) chk_law_begun hm (D.bindsN fun _ _ _ _ _ _ us hl => match us, hl with | [_], _ => rfl)
theorem ok_law (F : Facts G) : DefOk G base 10 "law" f_law := by
  obtain ⟨f, fd, D, hm⟩ := F.d_law
  exact def_ok (k := 9) (ps := ["script"]) (M := m_law _) D ⟨rfl, rfl, rfl, by decide +kernel, rfl, by decide +kernel, by decide +kernel⟩ ⟨rfl, rfl, rfl⟩ rfl rfl (fs_of rfl (fs_cons (ok_law_known_right F) (by decide) (fs_cons (ok_law_shuffled F) (by decide) (fs_cons (ok_law_row_right F) (by decide) (fs_cons (ok_law_draw F) (by decide) (fs_cons (ok_law_sm_event F) (by decide) (fs_cons (ok_law_table F) (by decide) (fs_cons (ok_law_sizes F) (by decide) (fs_cons (ok_law_begun F) (by decide) fs_nil))))))))) (gs_of rfl gs_nil) F.bl (fun _ => F.gcd) chk_law hm (D.bindsN fun _ _ _ _ _ _ us hl => match us, hl with | [_], _ => rfl)
end
end EV.Sp
end

set_option autoImplicit false
set_option linter.all false
set_option maxRecDepth 100000
set_option maxHeartbeats 0
set_option Elab.async false
namespace EV.Sp
open PySem
open PySem.Spec L2
theorem facts_of {P : Program} {w : World} {K : PySem.W.Frag} {mg : Str → Option Value} {h : Heap} (c : SaysX exAll faAll fnAll K) (X : K.In h) (g : h.Ns mainGlobals mg) : Facts ⟨P, w, K, mg⟩ := by
  have e := c.bit
  unfold exAll at e
  simp only [Bool.and_eq_true] at e
  exact {
    bl := c.free X g fun y hy => List.mem_append_left _ (List.mem_map_of_mem hy)
    gcd := blt_ok X g e.1.1
    c_MOST_LEVELS := c.int X g (List.mem_of_getElem? (i := 74) rfl)
    c_MOST_ROWS := c.int X g (List.mem_of_getElem? (i := 75) rfl)
    c_MOST_THINGS := c.int X g (List.mem_of_getElem? (i := 76) rfl)
    c_ONE := c.tup X g (List.mem_of_getElem? (i := 72) rfl) e.1.2
    c_ZERO := c.tup X g (List.mem_of_getElem? (i := 73) rfl) e.2
    d_law_is_truth := c.def_ X g (List.mem_of_getElem? (i := 0) rfl) (List.mem_of_getElem? (i := 18) rfl)
    d_law_same := c.def_ X g (List.mem_of_getElem? (i := 1) rfl) (List.mem_of_getElem? (i := 19) rfl)
    d_rows_of := c.def_ X g (List.mem_of_getElem? (i := 2) rfl) (List.mem_of_getElem? (i := 20) rfl)
    d_drawn_rows := c.def_ X g (List.mem_of_getElem? (i := 3) rfl) (List.mem_of_getElem? (i := 21) rfl)
    d_lowest := c.def_ X g (List.mem_of_getElem? (i := 4) rfl) (List.mem_of_getElem? (i := 22) rfl)
    d_over := c.def_ X g (List.mem_of_getElem? (i := 5) rfl) (List.mem_of_getElem? (i := 23) rfl)
    d_plus := c.def_ X g (List.mem_of_getElem? (i := 6) rfl) (List.mem_of_getElem? (i := 24) rfl)
    d_total := c.def_ X g (List.mem_of_getElem? (i := 7) rfl) (List.mem_of_getElem? (i := 25) rfl)
    d_part_of := c.def_ X g (List.mem_of_getElem? (i := 8) rfl) (List.mem_of_getElem? (i := 26) rfl)
    d_likely_at := c.def_ X g (List.mem_of_getElem? (i := 9) rfl) (List.mem_of_getElem? (i := 27) rfl)
    d_told_once := c.def_ X g (List.mem_of_getElem? (i := 10) rfl) (List.mem_of_getElem? (i := 28) rfl)
    d_talked := c.def_ X g (List.mem_of_getElem? (i := 11) rfl) (List.mem_of_getElem? (i := 29) rfl)
    d_is_whole := c.def_ X g (List.mem_of_getElem? (i := 12) rfl) (List.mem_of_getElem? (i := 30) rfl)
    d_is_row := c.def_ X g (List.mem_of_getElem? (i := 13) rfl) (List.mem_of_getElem? (i := 31) rfl)
    d_is_event := c.def_ X g (List.mem_of_getElem? (i := 14) rfl) (List.mem_of_getElem? (i := 32) rfl)
    d_need_event := c.def_ X g (List.mem_of_getElem? (i := 15) rfl) (List.mem_of_getElem? (i := 33) rfl)
    d_are_speakers := c.def_ X g (List.mem_of_getElem? (i := 16) rfl) (List.mem_of_getElem? (i := 34) rfl)
    d_is_ratio := c.def_ X g (List.mem_of_getElem? (i := 17) rfl) (List.mem_of_getElem? (i := 35) rfl)
    d_is_chance := c.def_ X g (List.mem_of_getElem? (i := 18) rfl) (List.mem_of_getElem? (i := 36) rfl)
    d_row_count := c.def_ X g (List.mem_of_getElem? (i := 19) rfl) (List.mem_of_getElem? (i := 37) rfl)
    d_are_row_keys := c.def_ X g (List.mem_of_getElem? (i := 20) rfl) (List.mem_of_getElem? (i := 38) rfl)
    d_are_levels := c.def_ X g (List.mem_of_getElem? (i := 21) rfl) (List.mem_of_getElem? (i := 39) rfl)
    d_is_sizes := c.def_ X g (List.mem_of_getElem? (i := 22) rfl) (List.mem_of_getElem? (i := 40) rfl)
    d_is_table := c.def_ X g (List.mem_of_getElem? (i := 23) rfl) (List.mem_of_getElem? (i := 41) rfl)
    d_need_table := c.def_ X g (List.mem_of_getElem? (i := 24) rfl) (List.mem_of_getElem? (i := 42) rfl)
    d_need_talk := c.def_ X g (List.mem_of_getElem? (i := 25) rfl) (List.mem_of_getElem? (i := 43) rfl)
    d_talk_lots := c.def_ X g (List.mem_of_getElem? (i := 26) rfl) (List.mem_of_getElem? (i := 44) rfl)
    d_need_drawn := c.def_ X g (List.mem_of_getElem? (i := 27) rfl) (List.mem_of_getElem? (i := 45) rfl)
    d_talk := c.def_ X g (List.mem_of_getElem? (i := 28) rfl) (List.mem_of_getElem? (i := 46) rfl)
    d_left_open := c.def_ X g (List.mem_of_getElem? (i := 29) rfl) (List.mem_of_getElem? (i := 47) rfl)
    d_law_rows_of := c.def_ X g (List.mem_of_getElem? (i := 30) rfl) (List.mem_of_getElem? (i := 48) rfl)
    d_law_known_right := c.def_ X g (List.mem_of_getElem? (i := 31) rfl) (List.mem_of_getElem? (i := 49) rfl)
    d_law_blended := c.def_ X g (List.mem_of_getElem? (i := 32) rfl) (List.mem_of_getElem? (i := 50) rfl)
    d_law_draw := c.def_ X g (List.mem_of_getElem? (i := 33) rfl) (List.mem_of_getElem? (i := 51) rfl)
    d_law_shuffled := c.def_ X g (List.mem_of_getElem? (i := 34) rfl) (List.mem_of_getElem? (i := 52) rfl)
    d_law_all_sequences := c.def_ X g (List.mem_of_getElem? (i := 35) rfl) (List.mem_of_getElem? (i := 53) rfl)
    d_chance_of := c.def_ X g (List.mem_of_getElem? (i := 36) rfl) (List.mem_of_getElem? (i := 54) rfl)
    d_given := c.def_ X g (List.mem_of_getElem? (i := 37) rfl) (List.mem_of_getElem? (i := 55) rfl)
    d_behind := c.def_ X g (List.mem_of_getElem? (i := 38) rfl) (List.mem_of_getElem? (i := 56) rfl)
    d_law_q := c.def_ X g (List.mem_of_getElem? (i := 39) rfl) (List.mem_of_getElem? (i := 57) rfl)
    d_law_minus := c.def_ X g (List.mem_of_getElem? (i := 40) rfl) (List.mem_of_getElem? (i := 58) rfl)
    d_law_row_right := c.def_ X g (List.mem_of_getElem? (i := 41) rfl) (List.mem_of_getElem? (i := 59) rfl)
    d_law_sm_event := c.def_ X g (List.mem_of_getElem? (i := 42) rfl) (List.mem_of_getElem? (i := 60) rfl)
    d_law_pick := c.def_ X g (List.mem_of_getElem? (i := 43) rfl) (List.mem_of_getElem? (i := 61) rfl)
    d_law_plus := c.def_ X g (List.mem_of_getElem? (i := 44) rfl) (List.mem_of_getElem? (i := 62) rfl)
    d_law_times := c.def_ X g (List.mem_of_getElem? (i := 45) rfl) (List.mem_of_getElem? (i := 63) rfl)
    d_law_blend := c.def_ X g (List.mem_of_getElem? (i := 46) rfl) (List.mem_of_getElem? (i := 64) rfl)
    d_law_free := c.def_ X g (List.mem_of_getElem? (i := 47) rfl) (List.mem_of_getElem? (i := 65) rfl)
    d_law_raised := c.def_ X g (List.mem_of_getElem? (i := 48) rfl) (List.mem_of_getElem? (i := 66) rfl)
    d_law_levels := c.def_ X g (List.mem_of_getElem? (i := 49) rfl) (List.mem_of_getElem? (i := 67) rfl)
    d_law_table := c.def_ X g (List.mem_of_getElem? (i := 50) rfl) (List.mem_of_getElem? (i := 68) rfl)
    d_law_sizes := c.def_ X g (List.mem_of_getElem? (i := 51) rfl) (List.mem_of_getElem? (i := 69) rfl)
    d_law_begun := c.def_ X g (List.mem_of_getElem? (i := 52) rfl) (List.mem_of_getElem? (i := 70) rfl)
    d_law := c.def_ X g (List.mem_of_getElem? (i := 53) rfl) (List.mem_of_getElem? (i := 71) rfl)
  }
theorem law_fnok {G : Wd} {base : Heap} (F : Facts G) {f : Addr} {fd : FuncData} (D : FunD G.K "law" "law" (defArgs (topx PROG ix_law)) (defBody (topx PROG ix_law)) (defScope (topx PROG ix_law)) [] [] f fd) : FnOk G.P G.w G.K G.mg base (L2.CX G.P G.w) 10 f fd ["script"] (spOf G f_law) :=
  def_okE (k := 9) (ps := ["script"]) (M := m_law _) D ⟨rfl, rfl, rfl, by decide +kernel, rfl, by decide +kernel, by decide +kernel⟩ ⟨rfl, rfl, rfl⟩ rfl rfl (fs_of rfl (fs_cons (ok_law_known_right F) (by decide) (fs_cons (ok_law_shuffled F) (by decide) (fs_cons (ok_law_row_right F) (by decide) (fs_cons (ok_law_draw F) (by decide) (fs_cons (ok_law_sm_event F) (by decide) (fs_cons (ok_law_table F) (by decide) (fs_cons (ok_law_sizes F) (by decide) (fs_cons (ok_law_begun F) (by decide) fs_nil))))))))) (gs_of rfl gs_nil) F.bl (fun _ => F.gcd) chk_law
end EV.Sp
open PySem PySem.W
open PySem.Calls PyProof.Rows
theorem PySem.Challenge.cw_hangtogether_k81_whole_ends_of_talks_holds : PySem.Challenge.rw_hangtogether_k81_whole_ends_of_talks.Holds := by
  w_on; o_law
  refine HandSHeadRun.head_imp (r := EV.Sp.RID) (q := view EV.Sp.RID.prog [0, 70]) (H := EV.Sp.hk) (ob := EV.Sp.ob) (M := 20000) (loose := EV.Sp.looseAll) (d := HandSHeadRun.topDef EV.Sp.RID.prog 70) (kwd := []) EV.Sp.ob_eq
    EV.Sp.run (by kernel_rfl) (by kernel_rfl) (by kernel_rfl) (by rfl) (by first | assumption | decide +kernel) (by decide +kernel) ⟨rfl, rfl, rfl, rfl, rfl, by decide +kernel⟩ ?hw ?hc
  case hw => w_witness2
  case hc =>
    refine EV.walk_ev (l := PySem.Challenge.rw_hangtogether_k81_whole_ends_of_talks) (n := 63) (k := 10) (x := "script") rfl (by decide) (by kernel_rfl) ⟨rfl, by decide, by decide⟩ ?F
    intro w mg fa h Y G hmg0
    obtain ⟨K, KX, c⟩ := Y
    have hmg : mg ("law" : PySem.Str) = some (.ref fa) := by
      have e : (HandSHeadRun.topDef EV.Sp.RID.prog 70).name = ("law" : PySem.Str) := by kernel_rfl
      rw [← e]
      exact hmg0
    have Fx := EV.Sp.facts_of (P := (PySem.Challenge.rw_hangtogether_k81_whole_ends_of_talks).prog) (w := w) c KX G
    obtain ⟨f, fd, D, hm⟩ := Fx.d_law
    have e := hmg.symm.trans hm
    cases e
    have b := L2.FunD.bindsA (ps := ["script"]) D fun _ _ _ _ _ _ us hl => match us, hl with | [_], _ => rfl
    exact ⟨K, fd, EV.spOf _ EV.Sp.f_law, KX, fun s v => b s [v] rfl, fun H a ns o q => EV.right_sp (EV.Sp.s_law_right ns) o q, fun base => EV.Sp.law_fnok Fx D⟩
