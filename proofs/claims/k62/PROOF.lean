import PyProof.Rows.All
import Wide.All
import OpenK.AllK
import Wide.FinOn
import HandS.Base
import HandS.Call
import HandS.List
import HandS.Dict
import HandS.Iter
import HandS.Text
import HandS.Comp
import HandS.Defaults
import HandS.Ends
import PyProof.ToksMono
import HandS.TupAny
import HandS.Wide
import PyProof.StrOps2
import PyProof.P3Eq
import PyProof.NeData
import HandS.StrMore
import HandS.Zip
import HandS.IsInst
import HandS.Replace
import PyProof.CallFns
import PyProof.ListStr
import PyProof.ReprRoads
import PyProof.Rows.ListStrD
import HandS.Codes
import HandS.DictSub
import HandS.RaiseMore
import HandS.ReplaceList
import PyProof.Rows.StrFirst
import PyProof.StrLawsLast
import PyProof.Rows.StrCut
import HandS.More
import HandS.MakeKw
import HandS.OwnEq
import PyProof.EvalArms
import HandS.NoneIn
import KE.KUnpackStar
import PyProof.Draws
import PyProof.Rows.SetFrom
import PyProof.SetKind
import PyProof.StrWalks
import HandS.Strs
import HandS.SetTxt0
import KE.KStateDown
import HandS.Head0
import HandS.Head1
import HandS.Head2
import HandS.HeadEnd
import HandS.HeadHook1
import HandS.HeadHook2
import PySem.Challenge.RW_keyedline_k62_by_names_of_two
/-! Ev: a small evaluator of the Python that the laws and the program are written in. Plain Lean, nothing imported. -/
namespace Ev

/-- a text: its code points -/
abbrev Txt := List Nat
/-- names of fields, methods, parameters -/
inductive Nm where
  | __eq__ | __init__ | __repr__ | __str__ | add | alike | all_shown | append | ask | asked | asks | «at» | «back» | backed | become | behind | books | calls | came | can_be | can_be_loose | clear | columns | count | deed | deeds | depth | «do» | drop | echo | ended | endswith | extend | feed | field | find | finish | first_since | flow | flush | flushed | get | give_line | give_loose | go_on | goal | good | group | halted | hear | heard | held_texts | high | hold | in_lines | index | insert | is_paused | items | join | kept | kept_text | key | key_taken | keys | last | last_came | lead | least | let_go | line | line_now | lines | log | look | loose | lost | low | made | many | marks | modes | most | name | name_of | now_shown | number | one | other | partition | pass_tick | pause | pop | press | put | quoted_next | quoting | raw_signs | reader | reads | replace | resize | rfind | room | rows | rstrip | «run» | screen | see | seen_cells | seen_good | seen_text | self | serve | settle | «show» | showing | sign | signal | signals | signs | since | split | standing | startswith | strict | strip | sure | tab | tail | take | take_literal | taken | text | thing | things | tick | ticks_gone | times | told | turn | turn_modes | typed | under_way | update | upper | waiting | waiting_now | waits | wanted | was | «where» | wide | word | words | write | written_held
  deriving DecidableEq, Repr, Inhabited
def Nm.all : List Nm := [.__eq__, .__init__, .__repr__, .__str__, .add, .alike, .all_shown, .append, .ask, .asked, .asks, .«at», .«back», .backed, .become, .behind, .books, .calls, .came, .can_be, .can_be_loose, .clear, .columns, .count, .deed, .deeds, .depth, .«do», .drop, .echo, .ended, .endswith, .extend, .feed, .field, .find, .finish, .first_since, .flow, .flush, .flushed, .get, .give_line, .give_loose, .go_on, .goal, .good, .group, .halted, .hear, .heard, .held_texts, .high, .hold, .in_lines, .index, .insert, .is_paused, .items, .join, .kept, .kept_text, .key, .key_taken, .keys, .last, .last_came, .lead, .least, .let_go, .line, .line_now, .lines, .log, .look, .loose, .lost, .low, .made, .many, .marks, .modes, .most, .name, .name_of, .now_shown, .number, .one, .other, .partition, .pass_tick, .pause, .pop, .press, .put, .quoted_next, .quoting, .raw_signs, .reader, .reads, .replace, .resize, .rfind, .room, .rows, .rstrip, .«run», .screen, .see, .seen_cells, .seen_good, .seen_text, .self, .serve, .settle, .«show», .showing, .sign, .signal, .signals, .signs, .since, .split, .standing, .startswith, .strict, .strip, .sure, .tab, .tail, .take, .take_literal, .taken, .text, .thing, .things, .tick, .ticks_gone, .times, .told, .turn, .turn_modes, .typed, .under_way, .update, .upper, .waiting, .waiting_now, .waits, .wanted, .was, .«where», .wide, .word, .words, .write, .written_held]
/-- the text of a name -/
def Nm.txt : Nm → Txt
  | .__eq__ => [95, 95, 101, 113, 95, 95]
  | .__init__ => [95, 95, 105, 110, 105, 116, 95, 95]
  | .__repr__ => [95, 95, 114, 101, 112, 114, 95, 95]
  | .__str__ => [95, 95, 115, 116, 114, 95, 95]
  | .add => [97, 100, 100]
  | .alike => [97, 108, 105, 107, 101]
  | .all_shown => [97, 108, 108, 95, 115, 104, 111, 119, 110]
  | .append => [97, 112, 112, 101, 110, 100]
  | .ask => [97, 115, 107]
  | .asked => [97, 115, 107, 101, 100]
  | .asks => [97, 115, 107, 115]
  | .«at» => [97, 116]
  | .«back» => [98, 97, 99, 107]
  | .backed => [98, 97, 99, 107, 101, 100]
  | .become => [98, 101, 99, 111, 109, 101]
  | .behind => [98, 101, 104, 105, 110, 100]
  | .books => [98, 111, 111, 107, 115]
  | .calls => [99, 97, 108, 108, 115]
  | .came => [99, 97, 109, 101]
  | .can_be => [99, 97, 110, 95, 98, 101]
  | .can_be_loose => [99, 97, 110, 95, 98, 101, 95, 108, 111, 111, 115, 101]
  | .clear => [99, 108, 101, 97, 114]
  | .columns => [99, 111, 108, 117, 109, 110, 115]
  | .count => [99, 111, 117, 110, 116]
  | .deed => [100, 101, 101, 100]
  | .deeds => [100, 101, 101, 100, 115]
  | .depth => [100, 101, 112, 116, 104]
  | .«do» => [100, 111]
  | .drop => [100, 114, 111, 112]
  | .echo => [101, 99, 104, 111]
  | .ended => [101, 110, 100, 101, 100]
  | .endswith => [101, 110, 100, 115, 119, 105, 116, 104]
  | .extend => [101, 120, 116, 101, 110, 100]
  | .feed => [102, 101, 101, 100]
  | .field => [102, 105, 101, 108, 100]
  | .find => [102, 105, 110, 100]
  | .finish => [102, 105, 110, 105, 115, 104]
  | .first_since => [102, 105, 114, 115, 116, 95, 115, 105, 110, 99, 101]
  | .flow => [102, 108, 111, 119]
  | .flush => [102, 108, 117, 115, 104]
  | .flushed => [102, 108, 117, 115, 104, 101, 100]
  | .get => [103, 101, 116]
  | .give_line => [103, 105, 118, 101, 95, 108, 105, 110, 101]
  | .give_loose => [103, 105, 118, 101, 95, 108, 111, 111, 115, 101]
  | .go_on => [103, 111, 95, 111, 110]
  | .goal => [103, 111, 97, 108]
  | .good => [103, 111, 111, 100]
  | .group => [103, 114, 111, 117, 112]
  | .halted => [104, 97, 108, 116, 101, 100]
  | .hear => [104, 101, 97, 114]
  | .heard => [104, 101, 97, 114, 100]
  | .held_texts => [104, 101, 108, 100, 95, 116, 101, 120, 116, 115]
  | .high => [104, 105, 103, 104]
  | .hold => [104, 111, 108, 100]
  | .in_lines => [105, 110, 95, 108, 105, 110, 101, 115]
  | .index => [105, 110, 100, 101, 120]
  | .insert => [105, 110, 115, 101, 114, 116]
  | .is_paused => [105, 115, 95, 112, 97, 117, 115, 101, 100]
  | .items => [105, 116, 101, 109, 115]
  | .join => [106, 111, 105, 110]
  | .kept => [107, 101, 112, 116]
  | .kept_text => [107, 101, 112, 116, 95, 116, 101, 120, 116]
  | .key => [107, 101, 121]
  | .key_taken => [107, 101, 121, 95, 116, 97, 107, 101, 110]
  | .keys => [107, 101, 121, 115]
  | .last => [108, 97, 115, 116]
  | .last_came => [108, 97, 115, 116, 95, 99, 97, 109, 101]
  | .lead => [108, 101, 97, 100]
  | .least => [108, 101, 97, 115, 116]
  | .let_go => [108, 101, 116, 95, 103, 111]
  | .line => [108, 105, 110, 101]
  | .line_now => [108, 105, 110, 101, 95, 110, 111, 119]
  | .lines => [108, 105, 110, 101, 115]
  | .log => [108, 111, 103]
  | .look => [108, 111, 111, 107]
  | .loose => [108, 111, 111, 115, 101]
  | .lost => [108, 111, 115, 116]
  | .low => [108, 111, 119]
  | .made => [109, 97, 100, 101]
  | .many => [109, 97, 110, 121]
  | .marks => [109, 97, 114, 107, 115]
  | .modes => [109, 111, 100, 101, 115]
  | .most => [109, 111, 115, 116]
  | .name => [110, 97, 109, 101]
  | .name_of => [110, 97, 109, 101, 95, 111, 102]
  | .now_shown => [110, 111, 119, 95, 115, 104, 111, 119, 110]
  | .number => [110, 117, 109, 98, 101, 114]
  | .one => [111, 110, 101]
  | .other => [111, 116, 104, 101, 114]
  | .partition => [112, 97, 114, 116, 105, 116, 105, 111, 110]
  | .pass_tick => [112, 97, 115, 115, 95, 116, 105, 99, 107]
  | .pause => [112, 97, 117, 115, 101]
  | .pop => [112, 111, 112]
  | .press => [112, 114, 101, 115, 115]
  | .put => [112, 117, 116]
  | .quoted_next => [113, 117, 111, 116, 101, 100, 95, 110, 101, 120, 116]
  | .quoting => [113, 117, 111, 116, 105, 110, 103]
  | .raw_signs => [114, 97, 119, 95, 115, 105, 103, 110, 115]
  | .reader => [114, 101, 97, 100, 101, 114]
  | .reads => [114, 101, 97, 100, 115]
  | .replace => [114, 101, 112, 108, 97, 99, 101]
  | .resize => [114, 101, 115, 105, 122, 101]
  | .rfind => [114, 102, 105, 110, 100]
  | .room => [114, 111, 111, 109]
  | .rows => [114, 111, 119, 115]
  | .rstrip => [114, 115, 116, 114, 105, 112]
  | .«run» => [114, 117, 110]
  | .screen => [115, 99, 114, 101, 101, 110]
  | .see => [115, 101, 101]
  | .seen_cells => [115, 101, 101, 110, 95, 99, 101, 108, 108, 115]
  | .seen_good => [115, 101, 101, 110, 95, 103, 111, 111, 100]
  | .seen_text => [115, 101, 101, 110, 95, 116, 101, 120, 116]
  | .self => [115, 101, 108, 102]
  | .serve => [115, 101, 114, 118, 101]
  | .settle => [115, 101, 116, 116, 108, 101]
  | .«show» => [115, 104, 111, 119]
  | .showing => [115, 104, 111, 119, 105, 110, 103]
  | .sign => [115, 105, 103, 110]
  | .signal => [115, 105, 103, 110, 97, 108]
  | .signals => [115, 105, 103, 110, 97, 108, 115]
  | .signs => [115, 105, 103, 110, 115]
  | .since => [115, 105, 110, 99, 101]
  | .split => [115, 112, 108, 105, 116]
  | .standing => [115, 116, 97, 110, 100, 105, 110, 103]
  | .startswith => [115, 116, 97, 114, 116, 115, 119, 105, 116, 104]
  | .strict => [115, 116, 114, 105, 99, 116]
  | .strip => [115, 116, 114, 105, 112]
  | .sure => [115, 117, 114, 101]
  | .tab => [116, 97, 98]
  | .tail => [116, 97, 105, 108]
  | .take => [116, 97, 107, 101]
  | .take_literal => [116, 97, 107, 101, 95, 108, 105, 116, 101, 114, 97, 108]
  | .taken => [116, 97, 107, 101, 110]
  | .text => [116, 101, 120, 116]
  | .thing => [116, 104, 105, 110, 103]
  | .things => [116, 104, 105, 110, 103, 115]
  | .tick => [116, 105, 99, 107]
  | .ticks_gone => [116, 105, 99, 107, 115, 95, 103, 111, 110, 101]
  | .times => [116, 105, 109, 101, 115]
  | .told => [116, 111, 108, 100]
  | .turn => [116, 117, 114, 110]
  | .turn_modes => [116, 117, 114, 110, 95, 109, 111, 100, 101, 115]
  | .typed => [116, 121, 112, 101, 100]
  | .under_way => [117, 110, 100, 101, 114, 95, 119, 97, 121]
  | .update => [117, 112, 100, 97, 116, 101]
  | .upper => [117, 112, 112, 101, 114]
  | .waiting => [119, 97, 105, 116, 105, 110, 103]
  | .waiting_now => [119, 97, 105, 116, 105, 110, 103, 95, 110, 111, 119]
  | .waits => [119, 97, 105, 116, 115]
  | .wanted => [119, 97, 110, 116, 101, 100]
  | .was => [119, 97, 115]
  | .«where» => [119, 104, 101, 114, 101]
  | .wide => [119, 105, 100, 101]
  | .word => [119, 111, 114, 100]
  | .words => [119, 111, 114, 100, 115]
  | .write => [119, 114, 105, 116, 101]
  | .written_held => [119, 114, 105, 116, 116, 101, 110, 95, 104, 101, 108, 100]

/-- values: tuples stand as values, all that can change as an address -/
inductive D where
  | non | bl (b : Bool) | int (i : Int) | str (s : Txt) | tup (xs : List D) | ref (a : Nat) | fn (f : Nat)
  deriving Inhabited, Repr

/-- keys of dicts -/
inductive Ky where
  | i (n : Int) | s (t : Txt)
  deriving DecidableEq, Repr

/-- what stands at an address; fro: the script, never written -/
inductive Cell where
  | lst (xs : List D) | dct (kvs : List (Ky × D)) | obj (c : Nat) (fs : List (Nm × D)) | fro (xs : List D)
  deriving Inhabited, Repr

structure Heap where
  cs : List Cell
  deriving Repr

namespace Heap
def size (h : Heap) : Nat := h.cs.length
def get (h : Heap) (a : Nat) : Option Cell := h.cs[a]?
def put (h : Heap) (a : Nat) (c : Cell) : Heap := ⟨h.cs.set a c⟩
def new (h : Heap) (c : Cell) : Heap := ⟨h.cs ++ [c]⟩
end Heap

/-- the greatest length of a text, a list, a tuple -/
def LINE : Nat := 16777216

/-! ### data as trees (for ==, repr) -/
inductive Dt where
  | non | bl (b : Bool) | int (i : Int) | str (s : Txt) | lst (xs : List Dt) | tup (xs : List Dt)
  deriving Inhabited, Repr

mutual
def Dt.eqv : Dt → Dt → Bool
  | .non, .non => true
  | .bl a, .bl b => a == b
  | .bl a, .int j => (if a then 1 else 0) == j
  | .int i, .bl b => i == (if b then 1 else 0)
  | .int i, .int j => i == j
  | .str x, .str y => x == y
  | .lst xs, .lst ys => Dt.eqvs xs ys
  | .tup xs, .tup ys => Dt.eqvs xs ys
  | _, _ => false
def Dt.eqvs : List Dt → List Dt → Bool
  | [], [] => true
  | x :: xs, y :: ys => Dt.eqv x y && Dt.eqvs xs ys
  | _, _ => false
end

/-- the data that a value stands for: nested at most n deep -/
def dat (h : Heap) : Nat → D → Option Dt
  | _, .non => some .non
  | _, .bl b => some (.bl b)
  | _, .int i => some (.int i)
  | _, .str s => some (.str s)
  | 0, .tup _ => none
  | n + 1, .tup xs => (xs.mapM (dat h n)).map .tup
  | 0, .ref _ => none
  | n + 1, .ref a => match h.get a with
    | some (.lst xs) => (xs.mapM (dat h n)).map .lst
    | some (.fro xs) => (xs.mapM (dat h n)).map .lst
    | _ => none
  | _, .fn _ => none
/-- how deep data is looked at -/
def DEEP : Nat := 40

/-! ### the text of the code -/
inductive BOp where | add | sub | mul | div | mod | pow
  deriving DecidableEq, Repr
inductive COp where | eq | ne | lt | le | gt | ge | isin | notin | isn | notn
  deriving DecidableEq, Repr
inductive Ty where | int | bool | str | tuple | list | cls (c : Nat)
  deriving DecidableEq, Repr
/-- what is called by a name -/
inductive Fn where
  | len | repr | tuple | int | list | min | max | abs | str | sum | all | any | ord | lenset | isinst (t : Ty) | df (i : Nat) | cl (c : Nat)
  deriving DecidableEq, Repr

mutual
inductive E where
  | loc (i : Nat) | cst (d : D) | glb (i : Nat)
  | bin (o : BOp) (a b : E) | neg (a : E) | not (a : E)
  | cmp (o : COp) (a b : E) | chain (o p : COp) (a b c : E)
  | and (a b : E) | or (a b : E) | ite (c a b : E)
  | idx (a i : E) | slc (a : E) (lo hi : Eo)
  | fld (a : E) (f : Nm)
  | tup (es : Es) | lst (es : Es) | dct (es : Es)
  | comp (e : E) (t : T) (it : It) (c : Eo) (own : List Nat)
  | call (f : Fn) (es : Es) (kws : List Nm)
  | meth (o : E) (m : Nm) (es : Es) (kws : List Nm)
  /-- o.replace(c, t): one sign, a written text -/
  | repl (o : E) (c : Nat) (t : Txt)
inductive Eo where | no | yes (e : E)
inductive Es where | nil | cons (e : E) (es : Es)
/-- what a for or a comprehension walks -/
inductive It where | val (e : E) | range (es : Es) | enum (e : E) | zip (a b : E) | items (e : E)
/-- targets; stup: a row, and behind it a name that takes the rest -/
inductive T where | nm (i : Nat) | tup (ts : Ts) | stup (ts : Ts) (i : Nat) | idx (a i : E) | fld (a : E) (f : Nm)
inductive Ts where | nil | cons (t : T) (ts : Ts)
end
instance : Inhabited E := ⟨.cst .non⟩
mutual
/-- the names that a target stores -/
def T.slots : T → List Nat
  | .nm i => [i]
  | .tup ts => ts.slots
  | .stup ts i => i :: ts.slots
  | .idx _ _ => []
  | .fld _ _ => []
def Ts.slots : Ts → List Nat
  | .nil => []
  | .cons t ts => t.slots ++ ts.slots
end
def Ts.len : Ts → Nat
  | .nil => 0
  | .cons _ ts => ts.len + 1

mutual
inductive S where
  | ex (e : E) | asg (t : T) (e : E) | asgs (ts : Ts) (e : E) | aug (t : T) (o : BOp) (e : E)
  | ret (e : E) | retn | pass | brk | cont
  | ite (c : E) (a b : Ss) | whl (c : E) (b : Ss) | for_ (t : T) (it : It) (b : Ss)
  | never
inductive Ss where | nil | cons (s : S) (ss : Ss)
end
instance : Inhabited Ss := ⟨.nil⟩

/-- plain: called by place alone, its parameters' names count for nothing -/
structure Sig where
  plain : Bool := false
  args : List Nm
  kwo : List Nm := []
  dfl : List D := []
  kwd : List (Nm × D) := []
  deriving Repr
structure FD where
  sig : Sig
  slots : Nat
  body : Ss
structure CD where
  init : Option Nat := none
  meths : List (Nm × Nat) := []
  eq : Option Nat := none
structure Tab where
  defs : List FD
  clss : List CD
  glb : List D := []

abbrev Env := List (Option D)
abbrev Res (α : Type) := Option (α × Heap)

/-- where one stands: how a def is called, the tables, a bound of while's turns, repr -/
structure Cx where
  tab : Tab
  call : Nat → List D → Heap → Res D
  fuel : Nat
  shows : Dt → Option Txt

/-! ### truth, order, sizes -/
def truth (h : Heap) : D → Option Bool
  | .non => some false
  | .bl b => some b
  | .int i => some (i != 0)
  | .str s => some (!s.isEmpty)
  | .tup xs => some (!xs.isEmpty)
  | .ref a => match h.get a with
    | some (.lst xs) => some (!xs.isEmpty)
    | some (.fro xs) => some (!xs.isEmpty)
    | some (.dct kvs) => some (!kvs.isEmpty)
    | _ => none
  | .fn _ => none

def small (i : Int) : Bool := decide (-18446744073709551616 < i) && decide (i < 18446744073709551616)
/-- 2 ^ 4000 -/
def WIDE : Nat := 2 ^ 4000
def mulOk (i j : Int) : Bool := small i || small j || (decide (i.natAbs < WIDE) && decide (j.natAbs < WIDE))

def binI (o : BOp) (i j : Int) : Option Int := match o with
  | .add => some (i + j)
  | .sub => some (i - j)
  | .mul => if mulOk i j then some (i * j) else none
  | .div => if 0 < j ∧ j < 1073741824 then some (i / j) else none
  | .mod => if 0 < j then some (i % j) else none
  | .pow => if 0 ≤ j ∧ j ≤ 1000 ∧ i.natAbs < 2 ^ 640 then some (i ^ j.toNat) else none

/-- so many times, k read as 0 beneath it -/
def rep {α : Type} (k : Int) (xs : List α) : List α := (List.replicate k.toNat xs).flatten
def fits {α : Type} (xs : List α) : Bool := decide (xs.length ≤ LINE)
/-- a factor of a text, a list -/
def times (k : Int) : Bool := decide (-1000000000 < k) && decide (k < 1000000000)

def binV (o : BOp) (x y : D) (h : Heap) : Res D := match x, y with
  | .int i, .int j => (binI o i j).map fun k => (.int k, h)
  | .str s, .str t => match o with
    | .add => if s.length + t.length ≤ LINE then some (.str (s ++ t), h) else none
    | _ => none
  | .tup s, .tup t => match o with
    | .add => if s.length + t.length ≤ LINE then some (.tup (s ++ t), h) else none
    | _ => none
  | .str s, .int k => match o with
    | .mul => if times k && decide (s.length * k.toNat ≤ LINE) then some (.str (rep k s), h) else none
    | _ => none
  | .ref a, .int k => match o, h.get a with
    | .mul, some (.lst xs) => if times k && decide (xs.length * k.toNat ≤ LINE) then some (.ref h.size, h.new (.lst (rep k xs))) else none
    | _, _ => none
  | .ref a, .ref b => match o, h.get a, h.get b with
    | .add, some (.lst xs), some (.lst ys) => if xs.length + ys.length ≤ LINE then some (.ref h.size, h.new (.lst (xs ++ ys))) else none
    | _, _, _ => none
  | _, _ => none

/-- flat values alone: told apart as data -/
def flat : D → Bool
  | .non | .bl _ | .int _ | .str _ => true
  | _ => false
def eqF : D → D → Bool
  | .non, .non => true
  | .bl a, .bl b => a == b
  | .bl a, .int j => (if a then 1 else 0) == j
  | .int i, .bl b => i == (if b then 1 else 0)
  | .int i, .int j => i == j
  | .str x, .str y => x == y
  | _, _ => false

def keyOf : D → Option Ky
  | .int i => some (.i i)
  | .str s => some (.s s)
  | _ => none
def dlook (kvs : List (Ky × D)) (k : Ky) : Option D := match kvs with
  | [] => none
  | (q, v) :: r => if q = k then some v else dlook r k
/-- at its place, or behind all -/
def dput (kvs : List (Ky × D)) (k : Ky) (v : D) : List (Ky × D) := match kvs with
  | [] => [(k, v)]
  | (q, w) :: r => if q = k then (q, v) :: r else (q, w) :: dput r k v
def dputs (kvs : List (Ky × D)) : List (Ky × D) → List (Ky × D)
  | [] => kvs
  | (k, v) :: r => dputs (dput kvs k v) r
def flook (fs : List (Nm × D)) (f : Nm) : Option D := match fs with
  | [] => none
  | (g, v) :: r => if g = f then some v else flook r f
def fput (fs : List (Nm × D)) (f : Nm) (v : D) : List (Nm × D) := match fs with
  | [] => [(f, v)]
  | (g, w) :: r => if g = f then (g, v) :: r else (g, w) :: fput r f v

/-- does t stand in s -/
def isInfix (t : Txt) : Txt → Bool
  | [] => t.isEmpty
  | c :: s => t.isPrefixOf (c :: s) || isInfix t s

/-- the items that a value has -/
def items (h : Heap) : D → Option (List D)
  | .tup xs => some xs
  | .ref a => match h.get a with
    | some (.lst xs) => some xs
    | some (.fro xs) => some xs
    | _ => none
  | _ => none

def inV (x y : D) (h : Heap) : Option Bool := match y with
  | .str s => match x with
    | .str t => some (isInfix t s)
    | _ => none
  | .ref a => match h.get a with
    | some (.dct kvs) => (keyOf x).map fun k => (dlook kvs k).isSome
    | some (.lst xs) => if flat x && xs.all flat then some (xs.any fun y => eqF y x) else none
    | some (.fro xs) => if flat x && xs.all flat then some (xs.any fun y => eqF y x) else none
    | _ => none
  | .tup xs => if flat x && xs.all flat then some (xs.any fun y => eqF y x) else none
  | _ => none

def eqV (x y : D) (h : Heap) : Option Bool := match dat h DEEP x, dat h DEEP y with
  | some a, some b => some (Dt.eqv a b)
  | _, _ => none

/-- texts by their code points -/
def ltT : Txt → Txt → Bool
  | _, [] => false
  | [], _ :: _ => true
  | a :: s, b :: t => if a < b then true else if a = b then ltT s t else false

def cmpV (o : COp) (x y : D) (h : Heap) : Option Bool := match o with
  | .eq => eqV x y h
  | .ne => (eqV x y h).map (!·)
  | .isn => match y with
    | .non => match x with
      | .non => some true
      | _ => some false
    | _ => none
  | .notn => match y with
    | .non => match x with
      | .non => some false
      | _ => some true
    | _ => none
  | .isin => inV x y h
  | .notin => (inV x y h).map (!·)
  | .lt => match x, y with
    | .int i, .int j => some (decide (i < j))
    | _, _ => none
  | .le => match x, y with
    | .int i, .int j => some (decide (i ≤ j))
    | .str s, .str t => some (!ltT t s)
    | _, _ => none
  | .gt => match x, y with
    | .int i, .int j => some (decide (j < i))
    | _, _ => none
  | .ge => match x, y with
    | .int i, .int j => some (decide (j ≤ i))
    | _, _ => none

/-! ### places, slices -/
def place (n : Nat) (i : Int) : Option Nat :=
  if 0 ≤ i then (if i < n then some i.toNat else none) else if -(n : Int) ≤ i then some (i + n).toNat else none
/-- where a slice's bound lies -/
def bound (n : Nat) (d : Nat) : Option Int → Nat
  | none => d
  | some i => if i < 0 then (i + n).toNat else min i.toNat n
def cut {α : Type} (xs : List α) (lo hi : Option Int) : List α :=
  (xs.drop (bound xs.length 0 lo)).take (bound xs.length xs.length hi - bound xs.length 0 lo)

def idxV (x i : D) (h : Heap) : Option D := match x, i with
  | .str s, .int i => ((place s.length i).bind fun j => s[j]?).map fun c => .str [c]
  | .tup xs, .int i => (place xs.length i).bind fun j => xs[j]?
  | .ref a, i => match h.get a with
    | some (.dct kvs) => (keyOf i).bind (dlook kvs)
    | some (.lst xs) => match i with
      | .int i => (place xs.length i).bind fun j => xs[j]?
      | _ => none
    | some (.fro xs) => match i with
      | .int i => (place xs.length i).bind fun j => xs[j]?
      | _ => none
    | _ => none
  | _, _ => none

def slcV (x : D) (lo hi : Option Int) (h : Heap) : Res D := match x with
  | .str s => some (.str (cut s lo hi), h)
  | .tup xs => some (.tup (cut xs lo hi), h)
  | .ref a => match h.get a with
    | some (.lst xs) => some (.ref h.size, h.new (.lst (cut xs lo hi)))
    | some (.fro xs) => some (.ref h.size, h.new (.lst (cut xs lo hi)))
    | _ => none
  | _ => none

/-! ### texts -/
def stripL (cs : Txt) : Txt → Txt
  | [] => []
  | c :: s => if cs.contains c then stripL cs s else c :: s
def stripR (cs : Txt) (s : Txt) : Txt := (stripL cs s.reverse).reverse
/-- the first place of a sign, the last one -/
def findC (c : Nat) (s : Txt) : Int := match s.findIdx? (· == c) with
  | some i => i
  | none => -1
def rfindC (c : Nat) (s : Txt) : Int := match s.reverse.findIdx? (· == c) with
  | some i => (s.length : Int) - 1 - i
  | none => -1
def joinT (sep : Txt) : List Txt → Txt
  | [] => []
  | [x] => x
  | x :: r => x ++ sep ++ joinT sep r
def splitC (c : Nat) : Txt → List Txt
  | [] => [[]]
  | x :: s => if x = c then [] :: splitC c s else match splitC c s with
    | [] => [[x]]
    | w :: r => (x :: w) :: r
def replC (c : Nat) (by_ : Txt) : Txt → Txt
  | [] => []
  | x :: s => if x = c then by_ ++ replC c by_ s else x :: replC c by_ s
def texts : List D → Option (List Txt)
  | [] => some []
  | .str s :: r => (texts r).map (s :: ·)
  | _ :: _ => none
def intsL : List D → Option (List Int)
  | [] => some []
  | .int i :: r => (intsL r).map (i :: ·)
  | _ :: _ => none
def bools : List D → Option (List Bool)
  | [] => some []
  | .bl b :: r => (bools r).map (b :: ·)
  | _ :: _ => none
def minL : Int → List Int → Int
  | m, [] => m
  | m, x :: r => minL (if x < m then x else m) r
def maxL : Int → List Int → Int
  | m, [] => m
  | m, x :: r => maxL (if m < x then x else m) r
/-- the text of a whole number -/
def decN (n : Nat) : Txt := (Nat.toDigits 10 n).map Char.toNat
def decT (i : Int) : Txt := match i with
  | .ofNat n => decN n
  | .negSucc n => 45 :: decN (n + 1)
/-- figures read, from the left -/
def readN : Nat → Txt → Option Nat
  | n, [] => some n
  | n, c :: s => if 48 ≤ c ∧ c ≤ 57 then readN (10 * n + (c - 48)) s else none

/-! ### binding -/
def klook (kws : List (Nm × D)) (k : Nm) : Option D := flook kws k
def distinct : List Nm → Bool
  | [] => true
  | x :: r => !r.contains x && distinct r
/-- positional parameters: given, by name, or the default -/
def bindP (pos : List D) (kws : List (Nm × D)) (dfl : List D) : (args : List Nm) → Option (List D)
  | [] => some []
  | a :: r =>
    let v : Option D := match pos with
      | d :: _ => some d
      | [] => match klook kws a with
        | some d => some d
        | none => if r.length < dfl.length then dfl[dfl.length - 1 - r.length]? else none
    match v, bindP pos.tail kws dfl r with
    | some d, some ds => some (d :: ds)
    | _, _ => none
def bindK (kws kwd : List (Nm × D)) : List Nm → Option (List D)
  | [] => some []
  | a :: r =>
    let v : Option D := match klook kws a with
      | some d => some d
      | none => klook kwd a
    match v, bindK kws kwd r with
    | some d, some ds => some (d :: ds)
    | _, _ => none
def bindA (s : Sig) (pos : List D) (kws : List (Nm × D)) : Option (List D) :=
  if s.plain then (if kws.isEmpty && decide (pos.length = s.args.length) then some pos else none) else
  if pos.length ≤ s.args.length && distinct (kws.map (·.1)) && (kws.map (·.1)).all (fun k => (s.args.drop pos.length ++ s.kwo).contains k) then
    match bindP pos kws s.dfl s.args, bindK kws s.kwd s.kwo with
    | some a, some b => some (a ++ b)
    | _, _ => none
  else none

/-! ### what is called by a name -/
def isinst (t : Ty) (x : D) (h : Heap) : Option Bool := match x with
  | .non => some false
  | .bl _ => some (t == .bool || t == .int)
  | .int _ => some (t == .int)
  | .str _ => some (t == .str)
  | .tup _ => some (t == .tuple)
  | .ref a => match h.get a with
    | some (.lst _) => some (t == .list)
    | some (.fro _) => some (t == .list)
    | some (.dct _) => some false
    | some (.obj c _) => some (t == .cls c)
    | none => none
  | .fn _ => none
def uniq : List Nat → List Nat
  | [] => []
  | x :: r => if r.contains x then uniq r else x :: uniq r
def lenV (x : D) (h : Heap) : Option Nat := match x with
  | .str s => some s.length
  | .tup xs => some xs.length
  | .ref a => match h.get a with
    | some (.lst xs) => some xs.length
    | some (.fro xs) => some xs.length
    | some (.dct kvs) => some kvs.length
    | _ => none
  | _ => none
def one (xs : List D) : Option D := match xs with
  | [x] => some x
  | _ => none
/-- list(x) -/
def listV (x : D) (h : Heap) : Option (List D) := match x with
  | .str s => some (s.map fun c => .str [c])
  | x => items h x

def bltin (shows : Dt → Option Txt) (f : Fn) (xs : List D) (h : Heap) : Res D := match f, xs with
  | .len, [x] => (lenV x h).map fun n => (.int n, h)
  | .repr, [x] => match dat h DEEP x with
    | some d => (shows d).map fun t => (.str t, h)
    | none => none
  | .str, [.int i] => if i.natAbs < 2 ^ 1000 then some (.str (decT i), h) else none
  | .str, [.str s] => some (.str s, h)
  | .tuple, [x] => (items h x).map fun xs => (.tup xs, h)
  | .list, [x] => (listV x h).map fun xs => (.ref h.size, h.new (.lst xs))
  | .int, [.int i] => some (.int i, h)
  | .int, [.bl b] => some (.int (if b then 1 else 0), h)
  | .int, [.str s] => if s.isEmpty || decide (s.length > 640) then none else (readN 0 s).map fun n => (.int n, h)
  | .abs, [.int i] => some (.int (if i < 0 then -i else i), h)
  | .ord, [.str [c]] => some (.int c, h)
  | .min, [.int i, .int j] => some (.int (if j < i then j else i), h)
  | .max, [.int i, .int j] => some (.int (if j > i then j else i), h)
  | .min, [.ref a] => match (items h (.ref a)).bind intsL with
    | some (x :: r) => some (.int (minL x r), h)
    | _ => none
  | .max, [.ref a] => match (items h (.ref a)).bind intsL with
    | some (x :: r) => some (.int (maxL x r), h)
    | _ => none
  | .sum, [.ref a] => ((items h (.ref a)).bind intsL).map fun ns => (.int ns.sum, h)
  | .all, [.ref a] => ((items h (.ref a)).bind bools).map fun bs => (.bl (bs.all id), h)
  | .any, [.ref a] => ((items h (.ref a)).bind bools).map fun bs => (.bl (bs.any id), h)
  | .lenset, [.str s] => if s.length < 4000 then some (.int (uniq s).length, h) else none
  | .isinst t, [x] => (isinst t x h).map fun b => (.bl b, h)
  | _, _ => none

/-! ### methods of built-in things -/
def listM (m : Nm) (a : Nat) (xs : List D) (vs : List D) (h : Heap) : Res D := match m, vs with
  | .append, [y] => if xs.length < LINE then some (.non, h.put a (.lst (xs ++ [y]))) else none
  | .extend, [.tup ys] => if xs.length + ys.length ≤ LINE then some (.non, h.put a (.lst (xs ++ ys))) else none
  | .extend, [.ref b] => match h.get b with
    | some (.lst ys) => if xs.length + ys.length ≤ LINE then some (.non, h.put a (.lst (xs ++ ys))) else none
    | _ => none
  | .pop, [] => match xs.getLast? with
    | some y => some (y, h.put a (.lst xs.dropLast))
    | none => none
  | .pop, [.int i] => match place xs.length i with
    | some k => match xs[k]? with
      | some y => if times i then some (y, h.put a (.lst (xs.eraseIdx k))) else none
      | none => none
    | none => none
  | .insert, [.int i, y] => if 0 ≤ i && times i && decide (xs.length < LINE) then some (.non, h.put a (.lst (xs.take i.toNat ++ y :: xs.drop i.toNat))) else none
  | .index, [y] => if flat y && xs.all flat then (xs.findIdx? fun x => eqF x y).map fun (k : Nat) => (D.int (k : Int), h) else none
  | .clear, [] => some (.non, h.put a (.lst []))
  | _, _ => none

def strM (m : Nm) (s : Txt) (vs : List D) (h : Heap) : Res D := match m, vs with
  | .join, [y] => match (items h y).bind texts with
    | some ts => if (ts.map List.length).sum + ts.length * s.length ≤ LINE then some (.str (joinT s ts), h) else none
    | none => none
  | .strip, [.str cs] => some (.str (stripR cs (stripL cs s)), h)
  | .rstrip, [.str cs] => some (.str (stripR cs s), h)
  | .find, [.str [c]] => some (.int (findC c s), h)
  | .rfind, [.str [c]] => some (.int (rfindC c s), h)
  | .index, [.str [c]] => if s.contains c then some (.int (findC c s), h) else none
  | .split, [.str [c]] => if decide (c < 256) && decide (s.length + 2 ≤ LINE) then some (.ref h.size, h.new (.lst ((splitC c s).map .str))) else none
  | .startswith, [.str t] => some (.bl (t.isPrefixOf s), h)
  | .endswith, [.str t] => some (.bl (t.isSuffixOf s), h)
  | _, _ => none

def dctM (m : Nm) (a : Nat) (kvs : List (Ky × D)) (vs : List D) (h : Heap) : Res D := match m, vs with
  | .get, [k] => (keyOf k).map fun k => ((dlook kvs k).getD .non, h)
  | .get, [k, d] => (keyOf k).map fun k => ((dlook kvs k).getD d, h)
  | .update, [.ref b] => match h.get b with
    | some (.dct ws) => if decide (b ≠ a) && decide (kvs.length + ws.length ≤ LINE) then some (.non, h.put a (.dct (dputs kvs ws))) else none
    | _ => none
  | _, _ => none

/-! ### walks -/
/-- what is walked: known items, a list by its address (looked at in each turn), pairs of these -/
inductive Src where
  | fix (xs : List D) | at (a : Nat) | enum (s : Src) | zip (s t : Src)
  deriving Inhabited, Repr
/-- the i-th item; some none: there is no more -/
def Src.nxt (h : Heap) : Src → Nat → Option (Option D)
  | .fix xs, i => some xs[i]?
  | .at a, i => match h.get a with
    | some (.lst xs) => some xs[i]?
    | some (.fro xs) => some xs[i]?
    | _ => none
  | .enum s, i => match s.nxt h i with
    | some (some x) => some (some (.tup [.int (i : Int), x]))
    | some none => some none
    | none => none
  | .zip s t, i => match s.nxt h i, t.nxt h i with
    | some (some x), some (some y) => some (some (.tup [x, y]))
    | some none, some _ => some none
    | some (some _), some none => some none
    | _, _ => none
/-- how many there are by now -/
def Src.len (h : Heap) : Src → Nat
  | .fix xs => xs.length
  | .at a => match h.get a with
    | some (.lst xs) => xs.length
    | some (.fro xs) => xs.length
    | _ => 0
  | .enum s => s.len h
  | .zip s t => min (s.len h) (t.len h)
def ofIter (x : D) (h : Heap) : Option Src := match x with
  | .str s => some (.fix (s.map fun c => .str [c]))
  | .tup xs => some (.fix xs)
  | .ref a => match h.get a with
    | some (.lst _) => some (.at a)
    | some (.fro _) => some (.at a)
    | _ => none
  | _ => none
def bounded (i : Int) : Bool := decide (-(4611686018427387904) ≤ i) && decide (i < 4611686018427387904)
def upto (n : Nat) (lo : Int) : List D := (List.range n).map fun (k : Nat) => D.int (lo + (k : Int))
def rangeV : List D → Option Src
  | [.int n] => if bounded n then some (.fix (upto n.toNat 0)) else none
  | [.int a, .int b] => if bounded a && bounded b then some (.fix (upto (b - a).toNat a)) else none
  | _ => none

inductive Fl where | nx | rt (d : D) | bk | ct
  deriving Inhabited, Repr
abbrev ResS := Option (Fl × Env × Heap)

/-- a while, by what its test and its body do -/
def loopW (c : Env → Heap → Res Bool) (b : Env → Heap → ResS) : Nat → Env → Heap → ResS
  | 0, _, _ => none
  | n + 1, v, h => match c v h with
    | some (true, h1) => match b v h1 with
      | some (.nx, v2, h2) => loopW c b n v2 h2
      | some (.ct, v2, h2) => loopW c b n v2 h2
      | some (.bk, v2, h2) => some (.nx, v2, h2)
      | some (.rt d, v2, h2) => some (.rt d, v2, h2)
      | none => none
    | some (false, h1) => some (.nx, v, h1)
    | none => none
/-- a for, from turn i on -/
def loopF (src : Src) (b : D → Env → Heap → ResS) : Nat → Nat → Env → Heap → ResS
  | 0, _, _, _ => none
  | n + 1, i, v, h => match src.nxt h i with
    | some none => some (.nx, v, h)
    | some (some x) => match b x v h with
      | some (.nx, v2, h2) => loopF src b n (i + 1) v2 h2
      | some (.ct, v2, h2) => loopF src b n (i + 1) v2 h2
      | some (.bk, v2, h2) => some (.nx, v2, h2)
      | some (.rt d, v2, h2) => some (.rt d, v2, h2)
      | none => none
    | none => none
/-- a comprehension: f gives the new item, or none where the test fails; r: the new list -/
def loopC (src : Src) (f : D → Heap → Option (Option D × Heap)) (r : Nat) : Nat → Nat → Heap → Option Heap
  | 0, _, _ => none
  | n + 1, i, h => match src.nxt h i with
    | some none => some h
    | some (some x) => match f x h with
      | some (some y, h2) => match h2.get r with
        | some (.lst acc) => if acc.length < LINE then loopC src f r n (i + 1) (h2.put r (.lst (acc ++ [y]))) else none
        | _ => none
      | some (none, h2) => loopC src f r n (i + 1) h2
      | none => none
    | none => none

def wipe (v : Env) : List Nat → Env
  | [] => v
  | i :: r => (wipe v r).set i none

/-! ### expressions, targets -/
def pairsD : List D → Option (List (Ky × D))
  | [] => some []
  | [_] => none
  | k :: v :: r => match keyOf k, pairsD r with
    | some q, some ps => some ((q, v) :: ps)
    | _, _ => none

/-- the last n are named -/
def splitK (ks : List Nm) (xs : List D) : List D × List (Nm × D) :=
  (xs.take (xs.length - ks.length), ks.zip (xs.drop (xs.length - ks.length)))

def callDef (X : Cx) (f : Nat) (first : List D) (ks : List Nm) (xs : List D) (h : Heap) : Res D := match X.tab.defs[f]? with
  | some fd => match bindA fd.sig (first ++ (splitK ks xs).1) (splitK ks xs).2 with
    | some vs => X.call f vs h
    | none => none
  | none => none
/-- a new instance, then its __init__ -/
def make (X : Cx) (c : Nat) (ks : List Nm) (xs : List D) (h : Heap) : Res D := match X.tab.clss[c]? with
  | some cd => match cd.init with
    | some f => match callDef X f [.ref h.size] ks xs (h.new (.obj c [])) with
      | some (.non, h2) => some (.ref h.size, h2)
      | _ => none
    | none => none
  | none => none
def invoke (X : Cx) (f : Fn) (ks : List Nm) (xs : List D) (h : Heap) : Res D := match f with
  | .df i => callDef X i [] ks xs h
  | .cl c => make X c ks xs h
  | f => if ks.isEmpty then bltin X.shows f xs h else none
def mlook (ms : List (Nm × Nat)) (m : Nm) : Option Nat := match ms with
  | [] => none
  | (g, f) :: r => if g = m then some f else mlook r m
/-- of which kind the thing is, and that no field of its own hides the method -/
def kindM (m : Nm) (x : D) (h : Heap) : Nat := match x with
  | .str _ => 1
  | .ref a => match h.get a with
    | some (.lst _) => 2
    | some (.dct _) => 3
    | some (.obj c fs) => match flook fs m with
      | none => c + 4
      | some _ => 0
    | _ => 0
  | _ => 0
/-- o.m(..) -/
def methV (X : Cx) (x : D) (m : Nm) (ks : List Nm) (xs : List D) (h : Heap) : Res D := match x with
  | .str s => if ks.isEmpty then strM m s xs h else none
  | .ref a => match h.get a with
    | some (.obj c fs) => match flook fs m, X.tab.clss[c]? with
      | none, some cd => match mlook cd.meths m with
        | some f => callDef X f [.ref a] ks xs h
        | none => none
      | _, _ => none
    | some (.lst ys) => if ks.isEmpty then listM m a ys xs h else none
    | some (.dct kvs) => if ks.isEmpty then dctM m a kvs xs h else none
    | _ => none
  | _ => none
/-- ==, != of an instance by its class's own -/
def cmpE (X : Cx) (o : COp) (x y : D) (h : Heap) : Res D := match x with
  | .ref a => match h.get a, o with
    | some (.obj c _), .eq => match X.tab.clss[c]? with
      | some cd => match cd.eq with
        | some f => match callDef X f [x] [] [y] h with
          | some (.bl b, h2) => some (.bl b, h2)
          | _ => none
        | none => none
      | none => none
    | some (.obj c _), .ne => match X.tab.clss[c]? with
      | some cd => match cd.eq with
        | some f => match callDef X f [x] [] [y] h with
          | some (.bl b, h2) => some (.bl (!b), h2)
          | _ => none
        | none => none
      | none => none
    | _, _ => (cmpV o x y h).map fun b => (.bl b, h)
  | _ => (cmpV o x y h).map fun b => (.bl b, h)
def fldV (x : D) (f : Nm) (h : Heap) : Option D := match x with
  | .ref a => match h.get a with
    | some (.obj _ fs) => flook fs f
    | _ => none
  | _ => none
def fldPut (x : D) (f : Nm) (v : D) (h : Heap) : Option Heap := match x with
  | .ref a => match h.get a with
    | some (.obj c fs) => if fs.length < 900 then some (h.put a (.obj c (fput fs f v))) else none
    | _ => none
  | _ => none
def idxPut (x i v : D) (h : Heap) : Option Heap := match x with
  | .ref a => match h.get a with
    | some (.lst xs) => match i with
      | .int i => match place xs.length i with
        | some j => some (h.put a (.lst (xs.set j v)))
        | none => none
      | _ => none
    | some (.dct kvs) => match keyOf i with
      | some k => if kvs.length + 1 < LINE then some (h.put a (.dct (dput kvs k v))) else none
      | none => none
    | _ => none
  | _ => none
/-- a op= b: lists are not served -/
def augV (o : BOp) (x y : D) (h : Heap) : Res D := match x with
  | .ref _ => none
  | _ => match o with
    | .add => binV .add x y h
    | .sub => binV .sub x y h
    | _ => none
def setLoc (v : Env) (i : Nat) (d : D) : Option Env := if i < v.length then some (v.set i (some d)) else none

mutual
def evE (X : Cx) : E → Env → Heap → Res D
  | .loc i, v, h => match v[i]? with
    | some (some d) => some (d, h)
    | _ => none
  | .cst d, _, h => some (d, h)
  | .glb i, _, h => (X.tab.glb[i]?).map fun d => (d, h)
  | .bin o a b, v, h => match evE X a v h with
    | some (x, h1) => match evE X b v h1 with
      | some (y, h2) => binV o x y h2
      | none => none
    | none => none
  | .neg a, v, h => match evE X a v h with
    | some (.int i, h1) => some (.int (-i), h1)
    | _ => none
  | .not a, v, h => match evE X a v h with
    | some (x, h1) => (truth h1 x).map fun b => (.bl (!b), h1)
    | none => none
  | .cmp o a b, v, h => match evE X a v h with
    | some (x, h1) => match evE X b v h1 with
      | some (y, h2) => cmpE X o x y h2
      | none => none
    | none => none
  | .chain o p a b c, v, h => match evE X a v h with
    | some (x, h1) => match evE X b v h1 with
      | some (y, h2) => match cmpV o x y h2 with
        | some true => match evE X c v h2 with
          | some (z, h3) => (cmpV p y z h3).map fun b => (.bl b, h3)
          | none => none
        | some false => some (.bl false, h2)
        | none => none
      | none => none
    | none => none
  | .and a b, v, h => match evE X a v h with
    | some (x, h1) => match truth h1 x with
      | some true => evE X b v h1
      | some false => some (x, h1)
      | none => none
    | none => none
  | .or a b, v, h => match evE X a v h with
    | some (x, h1) => match truth h1 x with
      | some true => some (x, h1)
      | some false => evE X b v h1
      | none => none
    | none => none
  | .ite c a b, v, h => match evE X c v h with
    | some (x, h1) => match truth h1 x with
      | some true => evE X a v h1
      | some false => evE X b v h1
      | none => none
    | none => none
  | .idx a i, v, h => match evE X a v h with
    | some (x, h1) => match evE X i v h1 with
      | some (y, h2) => (idxV x y h2).map fun d => (d, h2)
      | none => none
    | none => none
  | .slc a lo hi, v, h => match evE X a v h with
    | some (x, h1) => match evO X lo v h1 with
      | some (l, h2) => match evO X hi v h2 with
        | some (u, h3) => slcV x l u h3
        | none => none
      | none => none
    | none => none
  | .fld a f, v, h => match evE X a v h with
    | some (x, h1) => (fldV x f h1).map fun d => (d, h1)
    | none => none
  | .tup es, v, h => match evEs X es v h with
    | some (xs, h1) => if xs.length ≤ LINE then some (.tup xs, h1) else none
    | none => none
  | .lst es, v, h => match evEs X es v h with
    | some (xs, h1) => if xs.length ≤ LINE then some (.ref h1.size, h1.new (.lst xs)) else none
    | none => none
  | .dct es, v, h => match evEs X es v (h.new (.dct [])) with
    | some (xs, h1) => match pairsD xs, h1.get h.size with
      | some ps, some (.dct []) => if ps.length ≤ 15 then some (.ref h.size, h1.put h.size (.dct (dputs [] ps))) else none
      | _, _ => none
    | none => none
  | .comp e t it c own, v, h => match evI X it v h with
    | some (src, h1) => match loopC src (fun x h => match asgT X t x (wipe v own) h with
        | some (v2, h2) => match evC X c v2 h2 with
          | some (true, h3) => match evE X e v2 h3 with
            | some (y, h4) => some (some y, h4)
            | none => none
          | some (false, h3) => some (none, h3)
          | none => none
        | none => none) h1.size (src.len h1 + 1) 0 (h1.new (.lst [])) with
      | some h2 => some (.ref h1.size, h2)
      | none => none
    | none => none
  | .call f es ks, v, h => match evEs X es v h with
    | some (xs, h1) => invoke X f ks xs h1
    | none => none
  | .meth o m es ks, v, h => match evE X o v h with
    | some (x, h1) => match evEs X es v h1 with
      | some (xs, h2) => if kindM m x h1 = kindM m x h2 then methV X x m ks xs h2 else none
      | none => none
    | none => none
  | .repl o c t, v, h => match evE X o v h with
    | some (.str s, h1) => if s.length + (s.length + 1) * t.length ≤ LINE then some (.str (replC c t s), h1) else none
    | _ => none
/-- a slice's end -/
def evO (X : Cx) : Eo → Env → Heap → Option (Option Int × Heap)
  | .no, _, h => some (none, h)
  | .yes e, v, h => match evE X e v h with
    | some (.int i, h1) => some (some i, h1)
    | _ => none
/-- a comprehension's test -/
def evC (X : Cx) : Eo → Env → Heap → Option (Bool × Heap)
  | .no, _, h => some (true, h)
  | .yes e, v, h => match evE X e v h with
    | some (b, h1) => (truth h1 b).map fun b => (b, h1)
    | none => none
def evEs (X : Cx) : Es → Env → Heap → Option (List D × Heap)
  | .nil, _, h => some ([], h)
  | .cons e es, v, h => match evE X e v h with
    | some (x, h1) => match evEs X es v h1 with
      | some (xs, h2) => some (x :: xs, h2)
      | none => none
    | none => none
def evI (X : Cx) : It → Env → Heap → Option (Src × Heap)
  | .val e, v, h => match evE X e v h with
    | some (x, h1) => (ofIter x h1).map fun s => (s, h1)
    | none => none
  | .range es, v, h => match evEs X es v h with
    | some (xs, h1) => (rangeV xs).map fun s => (s, h1)
    | none => none
  | .enum e, v, h => match evE X e v h with
    | some (x, h1) => match ofIter x h1 with
      | some (.at a) => some (.enum (.at a), h1)
      | _ => none
    | none => none
  | .zip a b, v, h => match evE X a v h with
    | some (x, h1) => match evE X b v h1 with
      | some (y, h2) => match ofIter x h2, ofIter y h2 with
        | some s, some t => some (.zip s t, h2)
        | _, _ => none
      | none => none
    | none => none
  | .items e, v, h => match evE X e v h with
    | some (.ref a, h1) => match h1.get a with
      | some (.dct kvs) => some (.fix (kvs.map fun q => .tup [(match q.1 with | .i n => .int n | .s t => .str t), q.2]), h1)
      | _ => none
    | _ => none
def asgT (X : Cx) : T → D → Env → Heap → Option (Env × Heap)
  | .nm i, d, v, h => (setLoc v i d).map fun v2 => (v2, h)
  | .tup ts, d, v, h => match items h d with
    | some xs => asgTs X ts xs v h
    | none => none
  | .stup ts i, d, v, h => match items h d with
    | some xs => if ts.len ≤ xs.length ∧ xs.length ≤ LINE then match asgTs X ts (xs.take ts.len) v (h.new (.lst (xs.drop ts.len))) with
        | some (v2, h2) => (setLoc v2 i (.ref h.size)).map fun v3 => (v3, h2)
        | none => none
      else none
    | none => none
  | .idx a i, d, v, h => match evE X a v h with
    | some (x, h1) => match evE X i v h1 with
      | some (y, h2) => (idxPut x y d h2).map fun h3 => (v, h3)
      | none => none
    | none => none
  | .fld a f, d, v, h => match evE X a v h with
    | some (x, h1) => (fldPut x f d h1).map fun h2 => (v, h2)
    | none => none
def asgTs (X : Cx) : Ts → List D → Env → Heap → Option (Env × Heap)
  | .nil, [], v, h => some (v, h)
  | .cons t ts, x :: xs, v, h => match asgT X t x v h with
    | some (v2, h2) => asgTs X ts xs v2 h2
    | none => none
  | _, _, _, _ => none
end
def evB (X : Cx) (e : E) (v : Env) (h : Heap) : Res Bool := match evE X e v h with
  | some (x, h1) => (truth h1 x).map fun b => (b, h1)
  | none => none
/-- one value to several targets -/
def asgAll (X : Cx) : Ts → D → Env → Heap → Option (Env × Heap)
  | .nil, _, v, h => some (v, h)
  | .cons t ts, d, v, h => match asgT X t d v h with
    | some (v2, h2) => asgAll X ts d v2 h2
    | none => none

/-! ### statements -/
mutual
def evS (X : Cx) : S → Env → Heap → ResS
  | .ex e, v, h => match evE X e v h with
    | some (_, h1) => some (.nx, v, h1)
    | none => none
  | .asg t e, v, h => match evE X e v h with
    | some (x, h1) => match asgT X t x v h1 with
      | some (v2, h2) => some (.nx, v2, h2)
      | none => none
    | none => none
  | .asgs ts e, v, h => match evE X e v h with
    | some (x, h1) => match asgAll X ts x v h1 with
      | some (v2, h2) => some (.nx, v2, h2)
      | none => none
    | none => none
  | .aug t o e, v, h => match t with
    | .nm i => match v[i]? with
      | some (some x) => match evE X e v h with
        | some (y, h1) => match augV o x y h1 with
          | some (z, h2) => match setLoc v i z with
            | some v2 => some (.nx, v2, h2)
            | none => none
          | none => none
        | none => none
      | _ => none
    | .fld a f => match evE X a v h with
      | some (p, h1) => match fldV p f h1 with
        | some x => match evE X e v h1 with
          | some (y, h2) => match augV o x y h2 with
            | some (z, h3) => match fldPut p f z h3 with
              | some h4 => some (.nx, v, h4)
              | none => none
            | none => none
          | none => none
        | none => none
      | none => none
    | _ => none
  | .ret e, v, h => match evE X e v h with
    | some (x, h1) => some (.rt x, v, h1)
    | none => none
  | .retn, v, h => some (.rt .non, v, h)
  | .pass, v, h => some (.nx, v, h)
  | .brk, v, h => some (.bk, v, h)
  | .cont, v, h => some (.ct, v, h)
  | .ite c a b, v, h => match evB X c v h with
    | some (true, h1) => evSs X a v h1
    | some (false, h1) => evSs X b v h1
    | none => none
  | .whl c b, v, h => loopW (evB X c) (evSs X b) X.fuel v h
  | .for_ t it b, v, h => match evI X it v h with
    | some (src, h1) => loopF src (fun x v h => match asgT X t x v h with
      | some (v2, h2) => evSs X b v2 h2
      | none => none) (src.len h1 + 1) 0 v h1
    | none => none
  | .never, _, _ => none
def evSs (X : Cx) : Ss → Env → Heap → ResS
  | .nil, v, h => some (.nx, v, h)
  | .cons s ss, v, h => match evS X s v h with
    | some (.nx, v2, h2) => evSs X ss v2 h2
    | r => r
end

/-- a def's body, from its parameters on -/
def runD (X : Cx) (fd : FD) (vs : List D) (h : Heap) : Res D :=
  if vs.length = fd.sig.args.length + fd.sig.kwo.length ∧ vs.length ≤ fd.slots then
    match evSs X fd.body (vs.map some ++ List.replicate (fd.slots - vs.length) none) h with
    | some (.nx, _, h2) => some (.non, h2)
    | some (.rt d, _, h2) => some (d, h2)
    | _ => none
  else none
/-- what a def is worth, k calls deep -/
def callK (tab : Tab) (fuel : Nat) (shows : Dt → Option Txt) : Nat → Nat → List D → Heap → Res D
  | 0, _, _, _ => none
  | k + 1, f, vs, h => match tab.defs[f]? with
    | some fd => runD ⟨tab, callK tab fuel shows k, fuel, shows⟩ fd vs h
    | none => none
end Ev
set_option Elab.async false
set_option linter.all false
set_option maxRecDepth 100000
/-! EvA: how the evaluator's values and cells lie in the hand layer's heap. -/
namespace EvS
open PySem PySem.Spec PyProof.Rows L2

def sT (s : Ev.Txt) : Str := ⟨s.toArray⟩
theorem sT_inj {s t : Ev.Txt} (h : sT s = sT t) : s = t := by
  have e : (sT s).cps = (sT t).cps := by rw [h]
  have e2 : s.toArray.toList = t.toArray.toList := congrArg Array.toList e
  simpa using e2
theorem sT_len (s : Ev.Txt) : (sT s).length = s.length := by simp [sT, Str.length]
theorem sT_of (x : Str) : sT x.cps.toList = x := by
  cases x with
  | mk c => simp [sT]
def nS (f : Ev.Nm) : Str := sT f.txt
/-- the name that has a text -/
def nmOf (s : Ev.Txt) : Option Ev.Nm := Ev.Nm.all.find? fun n => n.txt == s
theorem nmOf_txt (f : Ev.Nm) : nmOf f.txt = some f := by
  cases f <;> decide +kernel
theorem nS_inj {f g : Ev.Nm} (h : nS f = nS g) : f = g := by
  have e : f.txt = g.txt := sT_inj h
  have e1 := nmOf_txt f
  rw [e, nmOf_txt g] at e1
  exact (Option.some.inj e1).symm
def kK : Ev.Ky → Key
  | .i n => .inl n
  | .s t => .inr (sT t)
theorem kK_inj {k q : Ev.Ky} (h : kK k = kK q) : k = q := by
  cases k with
  | i n => cases q with
    | i m => exact congrArg Ev.Ky.i (Sum.inl.inj h)
    | s t => cases h
  | s t => cases q with
    | i m => cases h
    | s u => exact congrArg Ev.Ky.s (sT_inj (Sum.inr.inj h))
/-! ### a later heap -/
/-- tuples, what is locked: they stay -/
def Kp (H H' : Hp) : Prop := (∀ b xs, H b = some (.tup xs) → H' b = some (.tup xs)) ∧ ∀ b o u, H b = some (.frz o u) → H' b = some (.frz o u)
theorem Kp.refl (H : Hp) : Kp H H := ⟨fun _ _ e => e, fun _ _ _ e => e⟩
theorem Kp.trans {H H1 H2 : Hp} (a : Kp H H1) (b : Kp H1 H2) : Kp H H2 := ⟨fun c xs e => b.1 c xs (a.1 c xs e), fun c o u e => b.2 c o u (a.2 c o u e)⟩
theorem Kp.fresh {H : Hp} {p : Addr} {o : HO} (hp : H p = none) : Kp H (upd H p o) :=
  ⟨fun b xs e => by rw [upd_ne (ne_of_none e hp)]; exact e, fun b x u e => by rw [upd_ne (ne_of_none e hp)]; exact e⟩
theorem Kp.write {H : Hp} {p : Addr} {o u : HO} (hp : H p = some u) (m : Mut (some u)) : Kp H (upd H p o) :=
  ⟨fun b xs e => by
    rw [upd_ne (ne_of e hp (by rintro rfl; exact m))]; exact e,
   fun b x y e => by
    rw [upd_ne (ne_of e hp (by rintro rfl; exact m))]; exact e⟩
theorem Kp.rd {H H' : Hp} (k : Kp H H') {a : Addr} {xs : List V} (h : Rd H a (.tup xs)) : Rd H' a (.tup xs) := by
  rcases h with h | ⟨o, h⟩
  · exact .inl (k.1 _ _ h)
  · exact .inr ⟨o, k.2 _ _ _ h⟩
theorem Kp.sqT {H H' : Hp} (k : Kp H H') {K : PySem.W.Frag} {a : Addr} {xs : List V} (h : SqT K H a xs) : SqT K H' a xs := by
  rcases h with h | h
  · exact .inl (k.rd h)
  · exact .inr h

/-! ### values -/
mutual
inductive RV (K : PySem.W.Frag) (H : Hp) (ι : List Addr) : Ev.D → V → Prop
  | non : RV K H ι .non .non
  | bl (b : Bool) : RV K H ι (.bl b) (.bl b)
  | int (i : Int) : RV K H ι (.int i) (.int i)
  | str (s : Ev.Txt) (hs : s.length ≤ Ev.LINE) : RV K H ι (.str s) (.str (sT s))
  | ref {i : Nat} {a : Addr} : ι[i]? = some a → RV K H ι (.ref i) (.ref a)
  | tup {xs : List Ev.D} {a : Addr} {vs : List V} : SqT K H a vs → RVs K H ι xs vs → RV K H ι (.tup xs) (.ref a)
inductive RVs (K : PySem.W.Frag) (H : Hp) (ι : List Addr) : List Ev.D → List V → Prop
  | nil : RVs K H ι [] []
  | cons {x : Ev.D} {xs : List Ev.D} {v : V} {vs : List V} : RV K H ι x v → RVs K H ι xs vs → RVs K H ι (x :: xs) (v :: vs)
end
/-- ι' goes on where ι ends -/
def Pre (ι ι' : List Addr) : Prop := ∀ (i : Nat) (a : Addr), ι[i]? = some a → ι'[i]? = some a
theorem Pre.refl (ι : List Addr) : Pre ι ι := fun _ _ e => e
theorem Pre.trans {ι ι1 ι2 : List Addr} (a : Pre ι ι1) (b : Pre ι1 ι2) : Pre ι ι2 := fun i x e => b i x (a i x e)
theorem Pre.app (ι m : List Addr) : Pre ι (ι ++ m) := fun i a e => by
  rw [List.getElem?_append_left (List.getElem?_eq_some_iff.mp e).1]; exact e
section
variable {K : PySem.W.Frag} {H H' : Hp} {ι ι' : List Addr}
mutual
theorem RV.mono (k : Kp H H') (p : Pre ι ι') : ∀ {d : Ev.D} {v : V}, RV K H ι d v → RV K H' ι' d v
  | _, _, .non => .non
  | _, _, .bl b => .bl b
  | _, _, .int i => .int i
  | _, _, .str s hs => .str s hs
  | _, _, .ref e => .ref (p _ _ e)
  | _, _, .tup t r => .tup (k.sqT t) (RVs.mono k p r)
theorem RVs.mono (k : Kp H H') (p : Pre ι ι') : ∀ {d : List Ev.D} {v : List V}, RVs K H ι d v → RVs K H' ι' d v
  | _, _, .nil => .nil
  | _, _, .cons r t => .cons (RV.mono k p r) (RVs.mono k p t)
end
theorem RVs.length : ∀ {xs : List Ev.D} {vs : List V}, RVs K H ι xs vs → vs.length = xs.length
  | _, _, .nil => rfl
  | _, _, .cons _ t => by rw [List.length_cons, List.length_cons, RVs.length t]
theorem RVs.get : ∀ {xs : List Ev.D} {vs : List V} {i : Nat} {x : Ev.D}, RVs K H ι xs vs → xs[i]? = some x → ∃ v, vs[i]? = some v ∧ RV K H ι x v
  | _, _, _, _, .nil, e => by simp at e
  | _, _, 0, _, .cons r _, e => by simp at e; subst e; exact ⟨_, rfl, r⟩
  | _, _, i + 1, x, .cons _ t, e => by
    obtain ⟨v, h1, h2⟩ := RVs.get (i := i) t (by simpa using e)
    exact ⟨v, by simpa using h1, h2⟩
theorem RVs.app : ∀ {xs ys : List Ev.D} {vs ws : List V}, RVs K H ι xs vs → RVs K H ι ys ws → RVs K H ι (xs ++ ys) (vs ++ ws)
  | _, _, _, _, .nil, s => s
  | _, _, _, _, .cons r t, s => .cons r (RVs.app t s)
theorem RVs.take : ∀ {xs : List Ev.D} {vs : List V} (n : Nat), RVs K H ι xs vs → RVs K H ι (xs.take n) (vs.take n)
  | _, _, 0, _ => by simp; exact .nil
  | _, _, _ + 1, .nil => .nil
  | _, _, n + 1, .cons r t => .cons r (RVs.take n t)
theorem RVs.drop : ∀ {xs : List Ev.D} {vs : List V} (n : Nat), RVs K H ι xs vs → RVs K H ι (xs.drop n) (vs.drop n)
  | _, _, 0, r => r
  | _, _, _ + 1, .nil => .nil
  | _, _, n + 1, .cons _ t => RVs.drop n t
theorem RVs.set {x : Ev.D} {v : V} (r : RV K H ι x v) : ∀ {xs : List Ev.D} {vs : List V} (i : Nat), RVs K H ι xs vs → RVs K H ι (xs.set i x) (vs.set i v)
  | _, _, _, .nil => .nil
  | _, _, 0, .cons _ t => .cons r t
  | _, _, i + 1, .cons q t => .cons q (RVs.set r i t)
theorem RVs.eraseIdx : ∀ {xs : List Ev.D} {vs : List V} (i : Nat), RVs K H ι xs vs → RVs K H ι (xs.eraseIdx i) (vs.eraseIdx i)
  | _, _, _, .nil => .nil
  | _, _, 0, .cons _ t => t
  | _, _, i + 1, .cons q t => .cons q (RVs.eraseIdx i t)
theorem RVs.dropLast {xs : List Ev.D} {vs : List V} (h : RVs K H ι xs vs) : RVs K H ι xs.dropLast vs.dropLast := by
  rw [List.dropLast_eq_take, List.dropLast_eq_take, h.length]; exact h.take _
theorem RVs.rep {xs : List Ev.D} {vs : List V} (h : RVs K H ι xs vs) : ∀ n : Nat, RVs K H ι (List.replicate n xs).flatten (List.replicate n vs).flatten
  | 0 => .nil
  | n + 1 => by
    rw [List.replicate_succ, List.replicate_succ, List.flatten_cons, List.flatten_cons]
    exact h.app (RVs.rep h n)
/-- keys and values, fields, the names' places -/
abbrev RKs (K : PySem.W.Frag) (H : Hp) (ι : List Addr) : List (Ev.Ky × Ev.D) → List (Key × V) → Prop := Paired fun p q => q.1 = kK p.1 ∧ RV K H ι p.2 q.2
abbrev RFs (K : PySem.W.Frag) (H : Hp) (ι : List Addr) : List (Ev.Nm × Ev.D) → List (Str × V) → Prop := Paired fun p q => q.1 = nS p.1 ∧ RV K H ι p.2 q.2
def RO (K : PySem.W.Frag) (H : Hp) (ι : List Addr) : Option Ev.D → Option V → Prop
  | some d, some v => RV K H ι d v
  | none, _ => True
  | _, _ => False
abbrev REnv (K : PySem.W.Frag) (H : Hp) (ι : List Addr)   : Ev.Env → L2.St → Prop := Paired (RO K H ι)
theorem RKs.mono (k : Kp H H') (p : Pre ι ι') {xs : List (Ev.Ky × Ev.D)} {vs : List (Key × V)} (r : RKs K H ι xs vs) : RKs K H' ι' xs vs := Paired.mapP r fun _ _ z => ⟨z.1, z.2.mono k p⟩
theorem RFs.mono (k : Kp H H') (p : Pre ι ι') {xs : List (Ev.Nm × Ev.D)} {vs : List (Str × V)} (r : RFs K H ι xs vs) : RFs K H' ι' xs vs := Paired.mapP r fun _ _ z => ⟨z.1, z.2.mono k p⟩
theorem RO.mono (k : Kp H H') (p : Pre ι ι') {o : Option Ev.D} {v : Option V} (r : RO K H ι o v) : RO K H' ι' o v := by
  cases o with
  | none => trivial
  | some d => cases v with
    | none => exact r
    | some v => exact RV.mono k p r
theorem REnv.mono (k : Kp H H') (p : Pre ι ι') {xs : Ev.Env} {vs : L2.St} (r : REnv K H ι xs vs) : REnv K H' ι' xs vs := Paired.mapP r fun _ _ z => z.mono k p
theorem RFs.look {xs : List (Ev.Nm × Ev.D)} {vs : List (Str × V)} (r : RFs K H ι xs vs) (f : Ev.Nm) : match Ev.flook xs f with
    | some d => ∃ v, vs.lookup (nS f) = some v ∧ RV K H ι d v
    | none => vs.lookup (nS f) = none := by
  induction r with
  | nil => rfl
  | @cons p q xs vs h t ih =>
    obtain ⟨g, d⟩ := p
    obtain ⟨y, v⟩ := q
    obtain ⟨h1, h2⟩ := h
    dsimp only at h1 h2
    subst h1
    unfold Ev.flook
    by_cases e : g = f
    · subst e
      rw [if_pos rfl]
      exact ⟨v, by simp [List.lookup], h2⟩
    · rw [if_neg e]
      have e2 : (nS f == nS g) = false := beq_eq_false_iff_ne.mpr fun z => e (nS_inj z).symm
      have e3 : List.lookup (nS f) ((nS g, v) :: vs) = vs.lookup (nS f) := by simp [List.lookup, e2]
      rw [e3]
      exact ih
theorem RFs.put {xs : List (Ev.Nm × Ev.D)} {vs : List (Str × V)} (r : RFs K H ι xs vs) (f : Ev.Nm) {d : Ev.D} {v : V} (q : RV K H ι d v) : RFs K H ι (Ev.fput xs f d) (putF (nS f) v vs) := by
  induction r with
  | nil => exact .cons ⟨rfl, q⟩ .nil
  | @cons p w xs vs h t ih =>
    obtain ⟨g, e⟩ := p
    obtain ⟨y, u⟩ := w
    obtain ⟨h1, h2⟩ := h
    dsimp only at h1 h2
    subst h1
    show RFs K H ι (Ev.fput ((g, e) :: xs) f d) (if nS g = nS f then (nS g, v) :: vs else (nS g, u) :: putF (nS f) v vs)
    unfold Ev.fput
    by_cases z : g = f
    · subst z
      rw [if_pos rfl, if_pos rfl]
      exact .cons ⟨rfl, q⟩ t
    · rw [if_neg z, if_neg fun y => z (nS_inj y)]
      exact .cons ⟨rfl, h2⟩ ih
theorem RKs.look {xs : List (Ev.Ky × Ev.D)} {vs : List (Key × V)} (r : RKs K H ι xs vs) (k : Ev.Ky) : match Ev.dlook xs k with
    | some d => ∃ v, valV vs (kK k) = some v ∧ RV K H ι d v
    | none => valV vs (kK k) = none := by
  induction r with
  | nil => rfl
  | @cons p q xs vs h t ih =>
    obtain ⟨g, d⟩ := p
    obtain ⟨y, v⟩ := q
    obtain ⟨h1, h2⟩ := h
    dsimp only at h1 h2
    subst h1
    unfold Ev.dlook
    by_cases e : g = k
    · subst e
      rw [if_pos rfl]
      exact ⟨v, valV_pos rfl, h2⟩
    · rw [if_neg e]
      rw [valV_neg (p := (kK g, v)) fun z => e (kK_inj z)]
      exact ih
theorem RKs.map {xs : List (Ev.Ky × Ev.D)} {vs : List (Key × V)} (r : RKs K H ι xs vs) : True := trivial
theorem putK_cons {κ : Type} [DecidableEq κ] (p : κ × V) (kvs : List (κ × V)) (k : κ) (v : V) (hn : ¬ p.1 = k) : putK (p :: kvs) k v = p :: putK kvs k v := by
  unfold putK
  have e : ((p :: kvs).any fun kv => decide (kv.1 = k)) = (kvs.any fun kv => decide (kv.1 = k)) := by
    rw [List.any_cons, decide_eq_false hn, Bool.false_or]
  rw [e]
  split
  · rw [List.map_cons, if_neg hn]
  · rfl
theorem putK_same {κ : Type} [DecidableEq κ] (k : κ) (w v : V) (kvs : List (κ × V)) (hn : ∀ q ∈ kvs, ¬ q.1 = k) : putK ((k, w) :: kvs) k v = (k, v) :: kvs := by
  unfold putK
  rw [List.any_cons, decide_eq_true rfl, Bool.true_or, if_pos rfl, List.map_cons, if_pos rfl]
  congr 1
  refine (List.map_congr_left fun q hq => ?_).trans (List.map_id _)
  rw [if_neg (hn q hq)]; rfl
/-- no key twice -/
def Uq (xs : List (Ev.Ky × Ev.D)) : Prop := (xs.map (·.1)).Nodup
theorem RKs.notin {xs : List (Ev.Ky × Ev.D)} {vs : List (Key × V)} (r : RKs K H ι xs vs) {k : Ev.Ky} (h : k ∉ xs.map (·.1)) : ∀ q ∈ vs, ¬ q.1 = kK k := by
  induction r with
  | nil => intro q hq; simp at hq
  | @cons p w xs vs h1 t ih =>
    intro q hq
    rw [List.map_cons, List.mem_cons, not_or] at h
    rcases List.mem_cons.mp hq with rfl | hq
    · intro e
      rw [h1.1] at e
      exact h.1 (kK_inj e).symm
    · exact ih h.2 q hq
theorem RKs.put {xs : List (Ev.Ky × Ev.D)} {vs : List (Key × V)} (r : RKs K H ι xs vs) (u : Uq xs) (k : Ev.Ky) {d : Ev.D} {v : V} (q : RV K H ι d v) : RKs K H ι (Ev.dput xs k d) (putK vs (kK k) v) := by
  induction r with
  | nil => exact .cons ⟨rfl, q⟩ .nil
  | @cons p w xs vs h t ih =>
    obtain ⟨g, e⟩ := p
    obtain ⟨y, z⟩ := w
    obtain ⟨h1, h2⟩ := h
    dsimp only at h1 h2
    subst h1
    have u1 : g ∉ xs.map (·.1) ∧ (xs.map (·.1)).Nodup := List.nodup_cons.mp u
    unfold Ev.dput
    by_cases c : g = k
    · subst c
      rw [if_pos rfl, putK_same _ _ _ _ (RKs.notin t u1.1)]
      exact .cons ⟨rfl, q⟩ t
    · rw [if_neg c, putK_cons _ _ _ _ fun y => c (kK_inj y)]
      exact .cons ⟨rfl, h2⟩ (ih u1.2)
theorem dput_keys (k : Ev.Ky) (d : Ev.D) : ∀ xs : List (Ev.Ky × Ev.D), ∀ q, q ∈ (Ev.dput xs k d).map (·.1) → q = k ∨ q ∈ xs.map (·.1)
  | [], q, h => by simp [Ev.dput] at h; exact .inl h
  | (g, w) :: r, q, h => by
    unfold Ev.dput at h
    by_cases c : g = k
    · rw [if_pos c] at h; exact .inr h
    · rw [if_neg c, List.map_cons, List.mem_cons] at h
      rcases h with rfl | h
      · exact .inr (by simp)
      · rcases dput_keys k d r q h with h | h
        · exact .inl h
        · exact .inr (by rw [List.map_cons]; exact List.mem_cons_of_mem _ h)
theorem Uq.put {k : Ev.Ky} {d : Ev.D} : ∀ {xs : List (Ev.Ky × Ev.D)}, Uq xs → Uq (Ev.dput xs k d)
  | [], _ => by simp [Uq, Ev.dput]
  | (g, w) :: r, u => by
    have u1 : g ∉ r.map (·.1) ∧ (r.map (·.1)).Nodup := List.nodup_cons.mp u
    unfold Ev.dput
    by_cases c : g = k
    · rw [if_pos c]; exact u
    · rw [if_neg c]
      refine List.nodup_cons.mpr ⟨fun z => ?_, Uq.put (xs := r) u1.2⟩
      rcases dput_keys k d r g z with z | z
      · exact c z
      · exact u1.1 z
theorem Uq.puts : ∀ {ws xs : List (Ev.Ky × Ev.D)}, Uq xs → Uq (Ev.dputs xs ws)
  | [], _, u => u
  | (k, d) :: r, xs, u => by unfold Ev.dputs; exact Uq.puts (ws := r) u.put
theorem RKs.puts {ws : List (Ev.Ky × Ev.D)} {us : List (Key × V)} (a : RKs K H ι ws us) : ∀ {xs : List (Ev.Ky × Ev.D)} {vs : List (Key × V)}, RKs K H ι xs vs → Uq xs → RKs K H ι (Ev.dputs xs ws) (mergeK vs us) := by
  induction a with
  | nil => intro xs vs r _; exact r
  | @cons p q ws us h t ih =>
    obtain ⟨k, d⟩ := p
    obtain ⟨y, v⟩ := q
    obtain ⟨h1, h2⟩ := h
    dsimp only at h1 h2
    subst h1
    intro xs vs r u
    unfold Ev.dputs
    exact ih (r.put u k h2) u.put
end

/-! ### cells, heaps -/
/-- a cell at its address; cls: where each class stands -/
def RC (K : PySem.W.Frag) (cls : Nat → Option Addr) (H : Hp) (ι : List Addr) (a : Addr) : Ev.Cell → Prop
  | .lst xs => ∃ vs, H a = some (.lst vs) ∧ RVs K H ι xs vs
  | .dct kvs => ∃ ws, H a = some (.dK ws) ∧ RKs K H ι kvs ws ∧ Uq kvs
  | .obj c fs => ∃ C dx gs, cls c = some C ∧ H a = some (.ins C dx gs) ∧ RFs K H ι fs gs
  | .fro xs => ∃ o vs, H a = some (.frz o (.lst vs)) ∧ RVs K H ι xs vs
structure Rep (K : PySem.W.Frag) (cls : Nat → Option Addr) (H : Hp) (ι : List Addr) (h : Ev.Heap) : Prop where
  len : ι.length = h.size
  nd : ι.Nodup
  at_ : ∀ i a c, ι[i]? = some a → h.get i = some c → RC K cls H ι a c
section
variable {K : PySem.W.Frag} {cls : Nat → Option Addr} {H H' : Hp} {ι ι' : List Addr} {h : Ev.Heap}
theorem Rep.adr (r : Rep K cls H ι h) {i : Nat} {c : Ev.Cell} (e : h.get i = some c) : ∃ a, ι[i]? = some a ∧ RC K cls H ι a c := by
  have hi : i < h.size := (List.getElem?_eq_some_iff.mp e).1
  rw [← r.len] at hi
  exact ⟨ι[i], List.getElem?_eq_getElem hi, r.at_ i _ c (List.getElem?_eq_getElem hi) e⟩
theorem Rep.of_ref (r : Rep K cls H ι h) {i : Nat} {v : V} (q : RV K H ι (.ref i) v) : ∃ a, v = .ref a ∧ ι[i]? = some a ∧ ∀ c, h.get i = some c → RC K cls H ι a c := by
  cases q with
  | ref e => exact ⟨_, rfl, e, fun c hc => r.at_ _ _ _ e hc⟩
theorem RC.some {a : Addr} {c : Ev.Cell} (r : RC K cls H ι a c) : ∃ o, H a = some o := by
  cases c with
  | lst xs => obtain ⟨vs, e, _⟩ := r; exact ⟨_, e⟩
  | dct kvs => obtain ⟨ws, e, _⟩ := r; exact ⟨_, e⟩
  | obj c fs => obtain ⟨C, dx, gs, _, e, _⟩ := r; exact ⟨_, e⟩
  | fro xs => obtain ⟨o, vs, e, _⟩ := r; exact ⟨_, e⟩
theorem RC.mono {a : Addr} {c : Ev.Cell} (k : Kp H H') (p : Pre ι ι') (e : H' a = H a) (r : RC K cls H ι a c) : RC K cls H' ι' a c := by
  cases c with
  | lst xs => obtain ⟨vs, e1, q⟩ := r; exact ⟨vs, e.trans e1, q.mono k p⟩
  | dct kvs => obtain ⟨ws, e1, q, u⟩ := r; exact ⟨ws, e.trans e1, q.mono k p, u⟩
  | obj c fs => obtain ⟨C, dx, gs, z, e1, q⟩ := r; exact ⟨C, dx, gs, z, e.trans e1, q.mono k p⟩
  | fro xs => obtain ⟨o, vs, e1, q⟩ := r; exact ⟨o, vs, e.trans e1, q.mono k p⟩
theorem Rep.some_at (r : Rep K cls H ι h) {i : Nat} {a : Addr} (e : ι[i]? = some a) : ∃ o, H a = some o := by
  have hi : i < ι.length := (List.getElem?_eq_some_iff.mp e).1
  rw [r.len] at hi
  exact (r.at_ i a _ e (List.getElem?_eq_getElem hi)).some
theorem Rep.mem (r : Rep K cls H ι h) {a : Addr} (e : a ∈ ι) : ∃ o, H a = some o := by
  obtain ⟨i, hi⟩ := List.mem_iff_getElem?.mp e
  exact r.some_at hi
/-- anything new that is not a cell -/
theorem Rep.free (r : Rep K cls H ι h) {p : Addr} {o : HO} (hp : H p = none) : Rep K cls (upd H p o) ι h := by
  refine ⟨r.len, r.nd, fun i a c e1 e2 => (r.at_ i a c e1 e2).mono (.fresh hp) (.refl _) ?_⟩
  obtain ⟨u, hu⟩ := r.some_at e1
  exact upd_ne (ne_of_none hu hp)
/-- a new cell -/
theorem Rep.new (r : Rep K cls H ι h) {p : Addr} {o : HO} {c : Ev.Cell} (hp : H p = none) (q : RC K cls (upd H p o) (ι ++ [p]) p c) : Rep K cls (upd H p o) (ι ++ [p]) (h.new c) := by
  have hn : p ∉ ι := fun z => by
    obtain ⟨u, hu⟩ := r.mem z
    rw [hp] at hu; cases hu
  refine ⟨by simp [Ev.Heap.new, Ev.Heap.size, r.len], ?_, fun i a d e1 e2 => ?_⟩
  · rw [List.nodup_append]
    refine ⟨r.nd, by simp, fun x hx y hy e => ?_⟩
    simp at hy
    subst hy
    subst e
    exact hn hx
  · by_cases hi : i < ι.length
    · rw [List.getElem?_append_left hi] at e1
      have e3 : h.get i = some d := by
        have : (h.cs ++ [c])[i]? = some d := e2
        rw [List.getElem?_append_left (by rw [← show ι.length = h.cs.length from r.len]; exact hi)] at this
        exact this
      obtain ⟨u, hu⟩ := r.some_at e1
      exact (r.at_ i a d e1 e3).mono (.fresh hp) (.app _ _) (upd_ne (ne_of_none hu hp))
    · have e4 : i = ι.length := by
        have := (List.getElem?_eq_some_iff.mp e1).1
        simp at this
        omega
      subst e4
      rw [List.getElem?_append_right (Nat.le_refl _)] at e1
      simp at e1
      subst e1
      have e5 : (h.cs ++ [c])[ι.length]? = some d := e2
      rw [show ι.length = h.cs.length from r.len, List.getElem?_append_right (Nat.le_refl _)] at e5
      simp at e5
      subst e5
      exact q
/-- a cell is written -/
theorem Rep.put (r : Rep K cls H ι h) {i : Nat} {a : Addr} {o u : HO} {c : Ev.Cell} (e : ι[i]? = some a) (hu : H a = some u) (m : Mut (some u)) (q : RC K cls (upd H a o) ι a c) : Rep K cls (upd H a o) ι (h.put i c) := by
  refine ⟨by simp [Ev.Heap.put, Ev.Heap.size]; exact r.len, r.nd, fun j b d e1 e2 => ?_⟩
  by_cases hj : j = i
  · subst hj
    rw [e] at e1
    cases e1
    have e3 : (h.cs.set j c)[j]? = some d := e2
    have hl : j < h.cs.length := by
      have := (List.getElem?_eq_some_iff.mp e3).1
      simpa using this
    rw [List.getElem?_set_self hl] at e3
    cases e3
    exact q
  · have e3 : (h.cs.set i c)[j]? = some d := e2
    rw [List.getElem?_set_ne (fun z => hj z.symm)] at e3
    have hb : b ≠ a := fun z => by
      subst z
      exact hj (nodup_ix r.nd e1 e)
    exact (r.at_ j b d e1 e3).mono (.write hu m) (.refl _) (upd_ne hb)
where
  nodup_ix {l : List Addr} (hn : l.Nodup) {i j : Nat} {x : Addr} (a : l[i]? = some x) (b : l[j]? = some x) : i = j := by
    obtain ⟨h1, e1⟩ := List.getElem?_eq_some_iff.mp a
    obtain ⟨h2, e2⟩ := List.getElem?_eq_some_iff.mp b
    exact (List.getElem_inj hn).mp (e1.trans e2.symm)
end
end EvS
set_option Elab.async false
set_option linter.all false
set_option maxRecDepth 100000
set_option maxHeartbeats 1000000
/-! EvC: judgements at a state; a rule for each construct. -/
namespace EvS
open PySem PySem.Spec PyProof.Rows L2

/-- no fewer tokens are out than where the def began -/
abbrev TB (X : Cx) (s : Shared) : Prop := X.s_0.toks ≤ s.toks
theorem thk {α : Type} {t : Sem α} {P Q : α → Shared → Prop} {M : Model} {A : Around} {E : Value → Shared → Prop} {s : Shared} {n : Nat} (hn : n ≤ s.toks) (h : wpAny M A t P E s) (k : ∀ a s1, n ≤ s1.toks → P a s1 → Q a s1) : wpAny M A t Q E s :=
  wpAny_mono (wpAny_toks_of hn h) (fun a s1 z => k a s1 z.1 z.2) fun _ _ z => z.2
section
variable (X : Cx)
def SE (e : Expr) (σ : L2.St) (H : Hp) (Q : VK) : Prop :=
  ∀ (pins : List (Addr × Obj)) (s : Shared), TB X s → Inv X pins σ H s → wpAny (model X.prog X.w) X.A (eval e X.env) (EP X pins σ Q) X.xe s
def SB (e : Expr) (σ : L2.St) (H : Hp) (Q : Bool → Hp → Prop) : Prop :=
  ∀ (pins : List (Addr × Obj)) (s : Shared), TB X s → Inv X pins σ H s → wpAny (model X.prog X.w) X.A (isTrue e X.env (eval e X.env)) (TP X pins σ Q) X.xe s
/-- a test whatever its whole is: and, or -/
def SW (e : Expr) (σ : L2.St) (H : Hp) (Q : Bool → Hp → Prop) : Prop :=
  ∀ (whole : Sem Value) (pins : List (Addr × Obj)) (s : Shared), TB X s → Inv X pins σ H s → wpAny (model X.prog X.w) X.A (isTrue e X.env whole) (TP X pins σ Q) X.xe s
def SA (es : List Expr) (σ : L2.St) (H : Hp) (Q : List V → Hp → Prop) : Prop :=
  ∀ (pos : Pos) (pins : List (Addr × Obj)) (s : Shared), TB X s → Inv X pins σ H s → wpAny (model X.prog X.w) X.A (spliced (backTo pos (starEach es X.env))) (AP X pins σ Q) X.xe s
def SK (kws : List Keyword) (σ : L2.St) (H : Hp) (Q : List V → Hp → Prop) : Prop :=
  ∀ (pos : Pos) (pins : List (Addr × Obj)) (s : Shared), TB X s → Inv X pins σ H s → wpAny (model X.prog X.w) X.A (evalAll ((backToKw pos (keywordEach kws X.env)).map (·.2))) (AP X pins σ Q) X.xe s
def SO (e : Option Expr) (σ : L2.St) (H : Hp) (Q : Option Int → Hp → Prop) : Prop :=
  ∀ (pins : List (Addr × Obj)) (s : Shared), TB X s → Inv X pins σ H s → wpAny (model X.prog X.w) X.A (evalPart e X.env) (fun u s' => ∃ o H', Inv X pins σ H' s' ∧ IsPart u o ∧ Q o H') X.xe s
def SS (st : Stmt) (D : Ends) (σ : L2.St) (H : Hp) : Prop :=
  ∀ (pins : List (Addr × Obj)) (s : Shared), TB X s → Inv X pins σ H s → wpAny (model X.prog X.w) X.A (exec st X.env) (SP X pins D) X.xe s
def SSs (sts : List Stmt) (D : Ends) (σ : L2.St) (H : Hp) : Prop :=
  ∀ (pins : List (Addr × Obj)) (s : Shared), TB X s → Inv X pins σ H s → wpAny (model X.prog X.w) X.A (execs sts X.env) (SP X pins D) X.xe s
def SG (tg : Expr) (v : V) (σ : L2.St) (H : Hp) (Q : L2.St → Hp → Prop) : Prop :=
  ∀ (pins : List (Addr × Obj)) (s : Shared) (u : Value), TB X s → Inv X pins σ H s → RelV v u → wpAny (model X.prog X.w) X.A (assign tg X.env u) (fun _ s' => ∃ σ' H', Inv X pins σ' H' s' ∧ Q σ' H') X.xe s
def SGs (tgs : List Expr) (vs : List V) (σ : L2.St) (H : Hp) (Q : L2.St → Hp → Prop) : Prop :=
  ∀ (pins : List (Addr × Obj)) (s : Shared) (us : List Value), TB X s → Inv X pins σ H s → Vals vs us → wpAny (model X.prog X.w) X.A (assignInOrder ((assignEach tgs X.env).map (·.2)) us) (fun _ s' => ∃ σ' H', Inv X pins σ' H' s' ∧ Q σ' H') X.xe s
end
section
variable {X : Cx}
theorem se {e : Expr} {t : TE} {σ : L2.St} {H : Hp} {Q : VK} (p : PE X e t) (h : t σ H Q) : SE X e σ H Q := fun pins s _ I => p.run pins s σ H Q I h
theorem ss {st : Stmt} {t : TS} {σ : L2.St} {H : Hp} {D : Ends} (p : PS X st t) (h : t D σ H) : SS X st D σ H := fun pins s _ I => p.run pins s σ H D I h
theorem SE.imp {e : Expr} {σ : L2.St} {H : Hp} {Q Q' : VK} (h : SE X e σ H Q) (q : ∀ v H', Q v H' → Q' v H') : SE X e σ H Q' :=
  fun pins s tb I => thn (h pins s tb I) fun _ _ ⟨v, H1, I1, r, z⟩ => ⟨v, H1, I1, r, q v H1 z⟩
theorem SA.imp {es : List Expr} {σ : L2.St} {H : Hp} {Q Q' : List V → Hp → Prop} (h : SA X es σ H Q) (q : ∀ v H', Q v H' → Q' v H') : SA X es σ H Q' :=
  fun p pins s tb I => thn (h p pins s tb I) fun _ _ ⟨v, H1, I1, r, z⟩ => ⟨v, H1, I1, r, q v H1 z⟩
theorem SB.imp {e : Expr} {σ : L2.St} {H : Hp} {Q Q' : Bool → Hp → Prop} (h : SB X e σ H Q) (q : ∀ v H', Q v H' → Q' v H') : SB X e σ H Q' :=
  fun pins s tb I => thn (h pins s tb I) fun b _ ⟨H1, I1, z⟩ => ⟨H1, I1, q b H1 z⟩
theorem SO.imp {e : Option Expr} {σ : L2.St} {H : Hp} {Q Q' : Option Int → Hp → Prop} (h : SO X e σ H Q) (q : ∀ v H', Q v H' → Q' v H') : SO X e σ H Q' :=
  fun pins s tb I => thn (h pins s tb I) fun b _ ⟨o, H1, I1, z, w⟩ => ⟨o, H1, I1, z, q o H1 w⟩
theorem SG.imp {tg : Expr} {v : V} {σ : L2.St} {H : Hp} {Q Q' : L2.St → Hp → Prop} (h : SG X tg v σ H Q) (q : ∀ v H', Q v H' → Q' v H') : SG X tg v σ H Q' :=
  fun pins s u tb I r => thn (h pins s u tb I r) fun _ _ ⟨σ1, H1, I1, z⟩ => ⟨σ1, H1, I1, q σ1 H1 z⟩

/-- f of two values -/
def SF2 (X : Cx) (f : Value → Value → Sem Value) (x y : V) (σ : L2.St) (H : Hp) (Q : VK) : Prop :=
  ∀ (pins : List (Addr × Obj)) (s : Shared) (v u : Value), TB X s → Inv X pins σ H s → RelV x v → RelV y u → wpAny (model X.prog X.w) X.A (f v u) (EP X pins σ Q) X.xe s
theorem SF2.of {f : Value → Value → Sem Value} {r : R2} (ho : OpR X f r) {x y : V} {σ : L2.St} {H : Hp} {Q : VK} (q : r x y H Q) : SF2 X f x y σ H Q :=
  fun pins s v u _ I rx ry => ho pins s σ H x y v u Q I rx ry q
theorem SF2.imp {f : Value → Value → Sem Value} {x y : V} {σ : L2.St} {H : Hp} {Q Q' : VK} (h : SF2 X f x y σ H Q) (q : ∀ v H', Q v H' → Q' v H') : SF2 X f x y σ H Q' :=
  fun pins s v u tb I rx ry => thn (h pins s v u tb I rx ry) fun _ _ ⟨z, H1, I1, r, w⟩ => ⟨z, H1, I1, r, q z H1 w⟩

variable {σ : L2.St} {H : Hp} {a b c e : Expr} {pos : Pos} {Q : VK} {QB : Bool → Hp → Prop}
/-- two expressions, from the left -/
theorem two {R : V → V → Hp → Prop} {pins : List (Addr × Obj)} {s : Shared} {W : Value → Shared → Prop} {f : Value → Value → Sem Value} (tb : TB X s) (I : Inv X pins σ H s) (h : SE X a σ H fun x H1 => SE X b σ H1 fun y H2 => R x y H2)
    (hf : ∀ v u s2 x y H2, TB X s2 → Inv X pins σ H2 s2 → RelV x v → RelV y u → R x y H2 → wpAny (model X.prog X.w) X.A (f v u) W X.xe s2) :
    wpAny (model X.prog X.w) X.A (eval a X.env) (fun v s₁ => wpAny (model X.prog X.w) X.A (eval b X.env) (fun u s₂ => wpAny (model X.prog X.w) X.A (f v u) W X.xe s₂) X.xe s₁) X.xe s :=
  thk tb (h pins s tb I) fun v s1 t1 ⟨x, H1, I1, r1, q1⟩ => thk t1 (q1 pins s1 t1 I1) fun u s2 t2 ⟨y, H2, I2, r2, q2⟩ => hf v u s2 x y H2 t2 I2 r1 r2 q2
theorem se_bin {op : Operator} (h : SE X a σ H fun x H1 => SE X b σ H1 fun y H2 => SF2 X (binaryOp op) x y σ H2 Q) : SE X (.BinOp a op b pos) σ H Q :=
  fun pins s tb I => wpAny_BinOp (two tb I h fun v u s2 x y H2 t2 I2 rx ry q => q pins s2 v u t2 I2 rx ry)
theorem se_cmp {op : CmpOp} (h : SE X a σ H fun x H1 => SE X b σ H1 fun y H2 => SF2 X (compareOp op) x y σ H2 Q) (hm : behindInMarks op b = false) : SE X (.Compare a [op] [b] pos) σ H Q :=
  fun pins s tb I => wpAny_Compare1 (two tb I h fun v u s2 x y H2 t2 I2 rx ry q => q pins s2 v u t2 I2 rx ry) hm
theorem sb_cmp {op : CmpOp} (h : SE X a σ H fun x H1 => SE X b σ H1 fun y H2 => SF2 X (compareOp op) x y σ H2 fun z H3 => ∃ k, z = .bl k ∧ QB k H3) (hm : behindInMarks op b = false) : SB X (.Compare a [op] [b] pos) σ H QB := by
  intro pins s tb I
  refine wpAny_isTrue_Compare1 (thk tb (h pins s tb I) fun v s1 t1 ⟨x, H1, I1, r1, q1⟩ => thk t1 (q1 pins s1 t1 I1) fun u s2 t2 ⟨y, H2, I2, r2, q2⟩ => thn (q2 pins s2 v u t2 I2 r1 r2) fun c s3 ⟨z, H3, I3, r3, k, e, q3⟩ => ?_) hm
  subst e
  cases r3
  exact wpAny_truthy_bool ⟨H3, I3, q3⟩
theorem se_chain {op op' : CmpOp} (h : SE X a σ H fun x H1 => SE X b σ H1 fun y H2 => SF2 X (compareOp op) x y σ H2 fun z H3 => ∃ k, z = .bl k ∧
    (if k = true then SE X c σ H3 fun w H4 => SF2 X (compareOp op') y w σ H4 Q else Q (.bl false) H3)) (hm : lastMarks [op, op'] [b, c] = false) : SE X (.Compare a [op, op'] [b, c] pos) σ H Q := by
  intro pins s tb I
  refine Compare_chain (thk tb (h pins s tb I) fun v s1 t1 ⟨x, H1, I1, r1, q1⟩ => chain_link (thk t1 (q1 pins s1 t1 I1) fun u s2 t2 ⟨y, H2, I2, r2, q2⟩ => thk t2 (q2 pins s2 v u t2 I2 r1 r2) fun d s3 t3 ⟨z, H3, I3, r3, k, e, q3⟩ => ?_)) hm
  subst e
  cases r3
  refine wpAny_truthy_bool ?_
  cases k with
  | false => exact ite_ff ⟨.bl false, H3, I3, rfl, q3⟩
  | true => exact ite_tt (chain_last (thk t3 (q3 pins s3 t3 I3) fun w' s4 t4 ⟨z', H4, I4, r4, q4⟩ => q4 pins s4 u w' t4 I4 r2 r4))
theorem sb_chain {op op' : CmpOp} (h : SE X a σ H fun x H1 => SE X b σ H1 fun y H2 => SF2 X (compareOp op) x y σ H2 fun z H3 => ∃ k, z = .bl k ∧
    (if k = true then SE X c σ H3 fun w H4 => SF2 X (compareOp op') y w σ H4 fun z H5 => ∃ k, z = .bl k ∧ QB k H5 else QB false H3)) (hm : lastMarks [op, op'] [b, c] = false) : SB X (.Compare a [op, op'] [b, c] pos) σ H QB := by
  intro pins s tb I
  refine isTrue_chain (thk tb (h pins s tb I) fun v s1 t1 ⟨x, H1, I1, r1, q1⟩ => test_link (thk t1 (q1 pins s1 t1 I1) fun u s2 t2 ⟨y, H2, I2, r2, q2⟩ => thk t2 (q2 pins s2 v u t2 I2 r1 r2) fun d s3 t3 ⟨z, H3, I3, r3, k, e, q3⟩ => ?_)) hm
  subst e
  cases r3
  refine wpAny_truthy_bool ?_
  cases k with
  | false => exact ite_ff ⟨H3, I3, q3⟩
  | true =>
    refine ite_tt (test_last (thk t3 (q3 pins s3 t3 I3) fun w' s4 t4 ⟨z', H4, I4, r4, q4⟩ => thn (q4 pins s4 u w' t4 I4 r2 r4) fun d' s5 ⟨z2, H5, I5, r5, k2, e2, q5⟩ => ?_))
    subst e2
    cases r5
    exact wpAny_truthy_bool ⟨H5, I5, q5⟩
/-- a plain expression as a test -/
theorem sb_val (h : SE X e σ H fun x H1 => ∃ k, TruV X.K x H1 k ∧ QB k H1) (he : ∀ whole, isTrue e X.env whole = (do let v ← whole; standAt e.pos; holding [v] (truthy v))) : SB X e σ H QB :=
  fun pins s tb I => isTrue_plain (thn (h pins s tb I) fun v s1 ⟨x, H1, I1, r1, q1⟩ => tru_ok pins s1 σ H1 x v QB I1 r1 q1) (he _)
theorem sb_not (h : SB X a σ H fun b H1 => QB (!b) H1) : SB X (.UnaryOp .Not a pos) σ H QB := fun pins s tb I => isTrue_not (h pins s tb I)
theorem sw_and1 (h : SB X a σ H QB) : SW X (.BoolOp .And [a] pos) σ H QB := fun w pins s tb I => isTrue_and (thn (h pins s tb I) fun c s1 z => by
  cases c with
  | false => exact z
  | true => exact isTrue_and_nil z)
theorem sw_or1 (h : SB X a σ H QB) : SW X (.BoolOp .Or [a] pos) σ H QB := fun w pins s tb I => isTrue_or (thn (h pins s tb I) fun c s1 z => by
  cases c with
  | true => exact z
  | false => exact isTrue_or_nil z)
theorem sw_and {r : List Expr} (h : SB X a σ H fun c H1 => if c = true then SW X (.BoolOp .And (b :: r) pos) σ H1 QB else QB false H1) : SW X (.BoolOp .And (a :: b :: r) pos) σ H QB :=
  fun w pins s tb I => isTrue_and (thk tb (h pins s tb I) fun c s1 t1 ⟨H1, I1, z⟩ => by
    cases c with
    | false => exact ⟨H1, I1, z⟩
    | true => exact z w pins s1 t1 I1)
theorem sw_or {r : List Expr} (h : SB X a σ H fun c H1 => if c = true then QB true H1 else SW X (.BoolOp .Or (b :: r) pos) σ H1 QB) : SW X (.BoolOp .Or (a :: b :: r) pos) σ H QB :=
  fun w pins s tb I => isTrue_or (thk tb (h pins s tb I) fun c s1 t1 ⟨H1, I1, z⟩ => by
    cases c with
    | true => exact ⟨H1, I1, z⟩
    | false => exact z w pins s1 t1 I1)
theorem SW.sb (h : SW X e σ H QB) : SB X e σ H QB := fun pins s tb I => h _ pins s tb I
/-- and, or as values -/
theorem se_and {r : List Expr} (h : SE X a σ H fun x H1 => ∃ k, TruV X.K x H1 k ∧ if k = true then SE X (.BoolOp .And (b :: r) pos) σ H1 Q else Q x H1) : SE X (.BoolOp .And (a :: b :: r) pos) σ H Q := by
  intro pins s tb I
  refine BoolOp_and (thk tb (h pins s tb I) fun v s1 t1 ⟨x, H1, I1, r1, k, tk, q1⟩ => ?_)
  refine thk t1 (tru_ok pins s1 σ H1 x v (fun c H2 => c = k ∧ H2 = H1) I1 r1 ⟨k, tk, rfl, rfl⟩) fun c s2 t2 ⟨H2, I2, e1, e2⟩ => ?_
  subst e1 e2
  cases c with
  | true => exact q1 pins s2 t2 I2
  | false => exact ⟨x, H2, I2, r1, q1⟩
theorem se_or {r : List Expr} (h : SE X a σ H fun x H1 => ∃ k, TruV X.K x H1 k ∧ if k = true then Q x H1 else SE X (.BoolOp .Or (b :: r) pos) σ H1 Q) : SE X (.BoolOp .Or (a :: b :: r) pos) σ H Q := by
  intro pins s tb I
  refine BoolOp_or (thk tb (h pins s tb I) fun v s1 t1 ⟨x, H1, I1, r1, k, tk, q1⟩ => ?_)
  refine thk t1 (tru_ok pins s1 σ H1 x v (fun c H2 => c = k ∧ H2 = H1) I1 r1 ⟨k, tk, rfl, rfl⟩) fun c s2 t2 ⟨H2, I2, e1, e2⟩ => ?_
  subst e1 e2
  cases c with
  | true => exact ⟨x, H2, I2, r1, q1⟩
  | false => exact q1 pins s2 t2 I2
theorem se_one {op : BoolOp} (h : SE X a σ H Q) : SE X (.BoolOp op [a] pos) σ H Q := fun pins s tb I => BoolOp_one (h pins s tb I)
theorem se_ite (h : SB X c σ H fun k H1 => if k = true then SE X a σ H1 Q else SE X b σ H1 Q) : SE X (.IfExp c a b pos) σ H Q :=
  fun pins s tb I => wpAny_IfExp (thk tb (h pins s tb I) fun k s1 t1 ⟨H1, I1, z⟩ => by
    cases k with
    | true => exact z pins s1 t1 I1
    | false => exact z pins s1 t1 I1)
theorem se_neg (h : SE X a σ H fun x H1 => ∃ i, x = .int i ∧ Q (.int (-i)) H1) : SE X (.UnaryOp .USub a pos) σ H Q :=
  fun pins s tb I => UnaryOp_ (thn (h pins s tb I) fun v s1 ⟨x, H1, I1, r1, q1⟩ => un_neg pins s1 σ H1 x v Q I1 r1 q1)
theorem se_not (h : SE X a σ H fun x H1 => ∃ k, TruV X.K x H1 k ∧ Q (.bl (!k)) H1) : SE X (.UnaryOp .Not a pos) σ H Q := by
  intro pins s tb I
  refine UnaryOp_ (thn (h pins s tb I) fun v s1 ⟨x, H1, I1, r1, k, tk, q1⟩ => ?_)
  refine not_of (thn (tru_ok pins s1 σ H1 x v (fun c H2 => c = k ∧ H2 = H1) I1 r1 ⟨k, tk, rfl, rfl⟩) fun c s2 ⟨H2, I2, e1, e2⟩ => ?_)
  subst e1 e2
  exact ⟨.bl (!c), H2, I2, rfl, q1⟩
end
end EvS
set_option Elab.async false
set_option linter.all false
set_option maxRecDepth 100000
set_option maxHeartbeats 1000000
/-! EvB: operators. -/
namespace EvS
open PySem PySem.Spec PyProof.Rows L2

/-- what an evaluated expression leaves -/
def PQ (K : PySem.W.Frag) (cls : Nat → Option Addr) (H : Hp) (ι : List Addr) (d : Ev.D) (h' : Ev.Heap) : VK := fun v H' =>
  ∃ ι', Pre ι ι' ∧ Kp H H' ∧ Rep K cls H' ι' h' ∧ RV K H' ι' d v
theorem PQ.here {K : PySem.W.Frag} {cls : Nat → Option Addr} {H : Hp} {ι : List Addr} {d : Ev.D} {h : Ev.Heap} {v : V} (R : Rep K cls H ι h) (r : RV K H ι d v) : PQ K cls H ι d h v H := ⟨ι, .refl _, .refl _, R, r⟩
/-- a new cell, told -/
theorem PQ.made {K : PySem.W.Frag} {cls : Nat → Option Addr} {H : Hp} {ι : List Addr} {h : Ev.Heap} {c : Ev.Cell} {p : Addr} {o : HO} (R : Rep K cls H ι h) (hp : H p = none)
    (q : RC K cls (upd H p o) (ι ++ [p]) p c) : PQ K cls H ι (.ref h.size) (h.new c) (.ref p) (upd H p o) :=
  ⟨ι ++ [p], .app _ _, .fresh hp, R.new hp q, .ref (by rw [← R.len, List.getElem?_append_right (Nat.le_refl _)]; simp)⟩
theorem PQ.list {K : PySem.W.Frag} {cls : Nat → Option Addr} {H : Hp} {ι : List Addr} {h : Ev.Heap} {xs : List Ev.D} {vs : List V} {p : Addr} (R : Rep K cls H ι h) (hp : H p = none)
    (r : RVs K H ι xs vs) : PQ K cls H ι (.ref h.size) (h.new (.lst xs)) (.ref p) (upd H p (.lst vs)) :=
  .made R hp ⟨vs, upd_same, r.mono (.fresh hp) (.app _ _)⟩
/-- a new tuple, told -/
theorem PQ.tup {K : PySem.W.Frag} {cls : Nat → Option Addr} {H : Hp} {ι : List Addr} {h : Ev.Heap} {xs : List Ev.D} {vs : List V} {p : Addr} (R : Rep K cls H ι h) (hp : H p = none)
    (r : RVs K H ι xs vs) : PQ K cls H ι (.tup xs) h (.ref p) (upd H p (.tup vs)) :=
  ⟨ι, .refl _, .fresh hp, R.free hp, .tup (.of upd_same) (r.mono (.fresh hp) (.refl _))⟩

def opO : Ev.BOp → Operator
  | .add => .Add | .sub => .Sub | .mul => .Mult | .div => .FloorDiv | .mod => .Mod | .pow => .Pow
theorem small_iff {i : Int} : Ev.small i = true ↔ -(2 ^ 64) < i ∧ i < 2 ^ 64 := by
  unfold Ev.small
  rw [Bool.and_eq_true, decide_eq_true_iff, decide_eq_true_iff]
  constructor
  · rintro ⟨a, b⟩; omega
  · rintro ⟨a, b⟩; omega
set_option exponentiation.threshold 5000 in
theorem wide_eq : Ev.WIDE = 2 ^ 4000 := rfl
theorem LINE_eq : Ev.LINE = sizeLine := by rw [sizeLine_eq]; rfl

section
variable {X : Cx} {cls : Nat → Option Addr} {σ : L2.St} {H : Hp} {ι : List Addr} {h h' : Ev.Heap}
theorem sT_app (s t : Ev.Txt) : sT (s ++ t) = sT s ++ sT t := by
  apply Str.ext'
  rw [Str.cps_append]
  simp [sT]
theorem sf_binI {o : Ev.BOp} {i j k : Int} (e : Ev.binI o i j = some k) (R : Rep X.K cls H ι h) : SF2 X (binaryOp (opO o)) (.int i) (.int j) σ H (PQ X.K cls H ι (.int k) h) := by
  cases o with
  | add => cases e; exact .of op_add ⟨_, _, rfl, rfl, .here R (.int _)⟩
  | sub => cases e; exact .of op_sub ⟨_, _, rfl, rfl, .here R (.int _)⟩
  | mul =>
    have e : (if Ev.mulOk i j then some (i * j) else none) = some k := e
    split at e
    · rename_i c
      cases e
      unfold Ev.mulOk at c
      rw [Bool.or_eq_true, Bool.or_eq_true, Bool.and_eq_true, small_iff, small_iff, decide_eq_true_iff, decide_eq_true_iff] at c
      rcases c with (c | c) | ⟨c1, c2⟩
      · exact .of op_mul ⟨_, _, rfl, rfl, .inl c, .here R (.int _)⟩
      · exact .of op_mul ⟨_, _, rfl, rfl, .inr c, .here R (.int _)⟩
      · rw [wide_eq] at c1 c2
        exact .of op_mulW ⟨_, _, rfl, rfl, wide_mul c1 c2 (by decide) (by decide) (by decide), .here R (.int _)⟩
    · cases e
  | div =>
    have e : (if 0 < j ∧ j < 1073741824 then some (i / j) else none) = some k := e
    split at e
    · rename_i c
      cases e
      exact .of op_fdiv ⟨_, _, rfl, rfl, c, .here R (.int _)⟩
    · cases e
  | mod =>
    have e : (if 0 < j then some (i % j) else none) = some k := e
    split at e
    · rename_i c
      cases e
      exact .of op_mod ⟨_, _, rfl, rfl, c, .here R (.int _)⟩
    · cases e
  | pow =>
    have e : (if 0 ≤ j ∧ j ≤ 1000 ∧ i.natAbs < 2 ^ 640 then some (i ^ j.toNat) else none) = some k := e
    split at e
    · rename_i c
      cases e
      have ho : OpR X (binaryOp .Pow) (rI (fun i j => 0 ≤ j ∧ j ≤ 1000 ∧ i.natAbs < 2 ^ 640) fun i j => .int (i ^ j.toNat)) := opI fun i j _ _ _ _ _ hc q =>
        pow_int hc.1 (by
          have h1 : Builtin.Int.intBits i ≤ 641 := by
            unfold Builtin.Int.intBits
            split
            · omega
            · have := PySem.Flt.log2_lt_of (by decide : 0 < 640) hc.2.2
              omega
          have h2 : (Builtin.Int.intBits i : Int) * j ≤ 641 * 1000 := Int.mul_le_mul (by omega) hc.2.1 hc.1 (by decide)
          omega) q
      exact .of ho ⟨_, _, rfl, rfl, c, .here R (.int _)⟩
    · cases e
theorem fold_rep (s : List Nat) : ∀ (n : Nat) (acc : Array Nat), ((List.replicate n s.toArray).foldl (· ++ ·) acc).toList = acc.toList ++ (List.replicate n s).flatten
  | 0, acc => by simp
  | n + 1, acc => by
    rw [List.replicate_succ, List.foldl_cons, fold_rep s n, List.replicate_succ, List.flatten_cons]
    simp
theorem sum_rep (m : Nat) : ∀ n : Nat, (List.replicate n m).sum = m * n
  | 0 => by simp
  | n + 1 => by rw [List.replicate_succ, List.sum_cons, sum_rep m n, Nat.mul_succ]; omega
theorem rep_len {α : Type} (k : Int) (s : List α) : (Ev.rep k s).length = s.length * k.toNat := by
  unfold Ev.rep
  rw [List.length_flatten, List.map_replicate, sum_rep]
theorem sf_mulS {s : Ev.Txt} {k : Int} (R : Rep X.K cls H ι h) (c1 : -1000000000 < k ∧ k < 1000000000) (c2 : s.length * k.toNat ≤ Ev.LINE) :
    SF2 X (binaryOp .Mult) (.str (sT s)) (.int k) σ H (PQ X.K cls H ι (.str (Ev.rep k s)) h) := by
  intro pins st v u _ I r1 r2
  obtain ⟨t, rfl⟩ := r1
  obtain ⟨t', rfl⟩ := r2
  have hL := LINE_eq
  have hl : sizeLine = 16777216 := sizeLine_eq
  have e1 : Txt.mul (sT s) k = sT (Ev.rep k s) := by
    apply Str.ext'
    apply Array.toList_inj.mp
    unfold Txt.mul Ev.rep
    split
    · rename_i h1
      have : k.toNat = 0 := by omega
      rw [this]
      simp [sT, Str.empty]
    · split
      · rename_i h1 h2
        rw [Bool.or_eq_true] at h2
        rcases h2 with h2 | h2
        · have : k = 1 := by simpa using h2
          subst this
          simp [sT]
        · have : s = [] := by
            have h3 : (sT s).length = 0 := by simpa using h2
            rw [sT_len] at h3
            exact List.eq_nil_of_length_eq_zero h3
          subst this
          simp [sT]
      · show ((List.replicate k.toNat s.toArray).foldl (· ++ ·) #[]).toList = _
        rw [fold_rep]
        simp [sT]
  refine SB.mul ⟨?_, fun h1 h2 => ?_, fun h1 h2 => ?_⟩ fun t' tk => ⟨.str (sT (Ev.rep k s)), H, I.tok tk, ⟨t', by rw [e1]⟩, .here R (.str _ (by rw [rep_len]; omega))⟩
  · rw [decide_eq_false (by omega), decide_eq_false (by omega)]; rfl
  · have h3 : ((sT s).length : Int) ≤ 16777216 := by
      rw [sT_len]
      have : 1 ≤ k.toNat := by omega
      have := Nat.mul_le_mul_left s.length this
      omega
    have h4 : (16777216 : Int) ≤ (2 ^ 63 - 1) / k := by
      rw [Int.le_ediv_iff_mul_le (by omega)]
      omega
    omega
  · rw [sT_len]
    exact decide_eq_false (by omega)
theorem sf_bin {o : Ev.BOp} {x y d : Ev.D} {vx vy : V} (e : Ev.binV o x y h = some (d, h')) (R : Rep X.K cls H ι h) (rx : RV X.K H ι x vx) (ry : RV X.K H ι y vy) :
    SF2 X (binaryOp (opO o)) vx vy σ H (PQ X.K cls H ι d h') := by
  have hL := LINE_eq
  unfold Ev.binV at e
  split at e
  · cases rx
    cases ry
    obtain ⟨k, e1, e2⟩ := Option.map_eq_some_iff.mp e
    cases e2
    exact sf_binI e1 R
  · cases rx
    cases ry
    split at e
    · split at e
      · rename_i c
        cases e
        exact .of op_add_str ⟨_, _, rfl, rfl, by rw [sT_len, sT_len]; omega, .here R (by rw [← sT_app]; exact .str _ (by rw [List.length_append]; omega))⟩
      · cases e
    · cases e
  · cases rx with
    | tup t1 r1 => cases ry with
      | tup t2 r2 =>
        split at e
        · split at e
          · rename_i c
            cases e
            refine .of op_catA ⟨_, _, _, _, rfl, rfl, t1, t2, by rw [r1.length, r2.length]; omega, fun z => ?_, fun z1 z2 => ?_, fun z1 z2 p hp => ?_⟩
            · subst z
              cases r1
              exact .here R (.tup t2 r2)
            · subst z2
              cases r2
              rw [List.append_nil]
              exact .here R (.tup t1 r1)
            · exact .tup R hp (r1.app r2)
          · cases e
        · cases e
  · cases rx
    cases ry
    split at e
    · split at e
      · rename_i s k c
        cases e
        rw [Bool.and_eq_true, decide_eq_true_iff] at c
        obtain ⟨c1, c2⟩ := c
        unfold Ev.times at c1
        rw [Bool.and_eq_true, decide_eq_true_iff, decide_eq_true_iff] at c1
        exact sf_mulS R c1 c2
      · cases e
    · cases e
  · cases ry
    obtain ⟨a, rfl, ha, hc⟩ := R.of_ref rx
    split at e
    · rename_i xs hx
      split at e
      · rename_i c
        cases e
        rw [Bool.and_eq_true, decide_eq_true_iff] at c
        obtain ⟨c1, c2⟩ := c
        unfold Ev.times at c1
        rw [Bool.and_eq_true, decide_eq_true_iff, decide_eq_true_iff] at c1
        obtain ⟨vs, hv, rv⟩ := hc _ hx
        exact .of op_rep ⟨_, _, _, rfl, rfl, hv, by omega, by omega, by rw [rv.length]; omega, fun p hp => .list R hp (rv.rep _)⟩
      · cases e
    · cases e
  · obtain ⟨a, rfl, ha, hc⟩ := R.of_ref rx
    obtain ⟨b, rfl, hb, hd⟩ := R.of_ref ry
    split at e
    · rename_i xs ys hx hy
      split at e
      · rename_i c
        cases e
        obtain ⟨vs, hv, rv⟩ := hc _ hx
        obtain ⟨ws, hw, rw'⟩ := hd _ hy
        exact .of op_cat ⟨_, _, _, _, rfl, rfl, hv, hw, by rw [rv.length, rw'.length]; omega, fun p hp => .list R hp (rv.app rw')⟩
      · cases e
    · cases e
  · cases e
end
end EvS
set_option Elab.async false
set_option linter.all false
set_option maxRecDepth 100000
set_option maxHeartbeats 1000000
/-! EvD: == and != of data, whatever its signs. The arms of the comparisons are printed by gen_eq.py. -/
namespace EvS
open PySem PySem.Spec PyProof.Rows L2 SeqAt

mutual
/-- a value of the model that is data, nested at most n deep -/
inductive DD (s : Shared) : Nat → Value → Ev.Dt → Prop
  | non {n : Nat} : DD s n .none .non
  | bl {n : Nat} (b : Bool) : DD s n (.bool b) (.bl b)
  | int {n : Nat} (i : Int) (t : Tok) : DD s n (.int i t) (.int i)
  | str {n : Nat} (x : Ev.Txt) (t : Tok) : DD s n (.str (sT x) t) (.str x)
  | lst {n : Nat} {l : Addr} {vs : Array Value} {xs : List Ev.Dt} : s.heap.IsList l vs → DDs s n vs.toList xs → DD s (n + 1) (.ref l) (.lst xs)
  | tup {n : Nat} {l : Addr} {vs : Array Value} {xs : List Ev.Dt} : s.heap.IsTuple l vs → DDs s n vs.toList xs → DD s (n + 1) (.ref l) (.tup xs)
inductive DDs (s : Shared) : Nat → List Value → List Ev.Dt → Prop
  | nil {n : Nat} : DDs s n [] []
  | cons {n : Nat} {v : Value} {vs : List Value} {d : Ev.Dt} {ds : List Ev.Dt} : DD s n v d → DDs s n vs ds → DDs s n (v :: vs) (d :: ds)
end
section
variable {s : Shared} {A : Around}
theorem room0 {u n : Nat} (h : u + (n + 1) < cLine) : u < cLine := by omega
theorem room1 {u n : Nat} (h : u + (n + 1) < cLine) : u + 1 + n < cLine := by omega
theorem DDs.length : ∀ {n : Nat} {vs : List Value} {xs : List Ev.Dt}, DDs s n vs xs → vs.length = xs.length
  | _, _, _, .nil => rfl
  | _, _, _, .cons _ t => by rw [List.length_cons, List.length_cons, DDs.length t]
theorem isList_inj {l : Addr} {vs ws : Array Value} (a : s.heap.IsList l vs) (b : s.heap.IsList l ws) : vs = ws := by
  obtain ⟨o, e, _, n, d⟩ := a
  obtain ⟨o', e', _, n', d'⟩ := b
  rw [e] at e'; cases e'
  rw [d] at d'; injection d'
theorem isTuple_inj {l : Addr} {vs ws : Array Value} (a : s.heap.IsTuple l vs) (b : s.heap.IsTuple l ws) : vs = ws := by
  obtain ⟨o, e, _, n, d⟩ := a
  obtain ⟨o', e', _, n', d'⟩ := b
  rw [e] at e'; cases e'
  rw [d] at d'; injection d'
theorem list_or_tuple {l : Addr} {vs ws : Array Value} (a : s.heap.IsList l vs) (b : s.heap.IsTuple l ws) : False := by
  obtain ⟨o, e, c, n, d⟩ := a
  obtain ⟨o', e', c', n', d'⟩ := b
  rw [e] at e'; cases e'
  rw [c] at c'; exact absurd c' (by simp)
mutual
theorem DD.same : ∀ {n m : Nat} {v : Value} {x y : Ev.Dt}, DD s n v x → DD s m v y → x = y
  | _, _, _, _, _, .non, .non => rfl
  | _, _, _, _, _, .bl _, .bl _ => rfl
  | _, _, _, _, _, .int _ _, .int _ _ => rfl
  | _, _, _, _, _, .str x t, h => by
    generalize hz : Value.str (sT x) t = z at h
    cases h with
    | str y u =>
      injection hz with h1 h2
      rw [sT_inj h1]
    | _ => cases hz
  | _, _, _, _, _, .lst hl q, .lst hl' q' => by
    obtain rfl := isList_inj hl hl'
    rw [DDs.same q q']
  | _, _, _, _, _, .lst hl q, .tup hl' q' => (list_or_tuple hl hl').elim
  | _, _, _, _, _, .tup hl q, .lst hl' q' => (list_or_tuple hl' hl).elim
  | _, _, _, _, _, .tup hl q, .tup hl' q' => by
    obtain rfl := isTuple_inj hl hl'
    rw [DDs.same q q']
theorem DDs.same : ∀ {n m : Nat} {vs : List Value} {xs ys : List Ev.Dt}, DDs s n vs xs → DDs s m vs ys → xs = ys
  | _, _, _, _, _, .nil, .nil => rfl
  | _, _, _, _, _, .cons a b, .cons a' b' => by rw [DD.same a a', DDs.same b b']
end
mutual
theorem eqv_refl : ∀ d : Ev.Dt, Ev.Dt.eqv d d = true
  | .non => rfl
  | .bl b => by simp [Ev.Dt.eqv]
  | .int i => by simp [Ev.Dt.eqv]
  | .str x => by simp [Ev.Dt.eqv]
  | .lst xs => by unfold Ev.Dt.eqv; exact eqvs_refl xs
  | .tup xs => by unfold Ev.Dt.eqv; exact eqvs_refl xs
theorem eqvs_refl : ∀ d : List Ev.Dt, Ev.Dt.eqvs d d = true
  | [] => rfl
  | x :: xs => by unfold Ev.Dt.eqvs; rw [eqv_refl x, eqvs_refl xs]; rfl
end
/-- the j-th pair -/
def pairE (xs ys : List Ev.Dt) (j : Nat) : Bool := Ev.Dt.eqv (xs.getD j .non) (ys.getD j .non)
theorem pairE_succ (x y : Ev.Dt) (xs ys : List Ev.Dt) (j : Nat) : pairE (x :: xs) (y :: ys) (j + 1) = pairE xs ys j := by simp [pairE]
theorem eqvs_eq : ∀ xs ys : List Ev.Dt, ((List.range (min xs.length ys.length)).all (pairE xs ys) && xs.length == ys.length) = Ev.Dt.eqvs xs ys
  | [], [] => rfl
  | [], _ :: _ => by simp [Ev.Dt.eqvs]
  | _ :: _, [] => by simp [Ev.Dt.eqvs]
  | x :: xs, y :: ys => by
    have ih := eqvs_eq xs ys
    rw [Ev.Dt.eqvs, ← ih]
    have e : min (x :: xs).length (y :: ys).length = min xs.length ys.length + 1 := by simp
    rw [e, List.range_succ_eq_map, List.all_cons, List.all_map]
    have e2 : ((pairE (x :: xs) (y :: ys)) ∘ Nat.succ) = pairE xs ys := by
      funext j
      exact pairE_succ x y xs ys j
    rw [e2]
    simp [pairE, Bool.and_assoc]
theorem eqvs_len {xs ys : List Ev.Dt} (h : xs.length = ys.length) : (List.range xs.length).all (pairE xs ys) = Ev.Dt.eqvs xs ys := by
  have := eqvs_eq xs ys
  rw [← h, Nat.min_self] at this
  simpa using this
theorem eqvs_no {xs ys : List Ev.Dt} (h : xs.length ≠ ys.length) : Ev.Dt.eqvs xs ys = false := by
  rw [← eqvs_eq xs ys]
  simp [h]
theorem str_eqb (x y : Ev.Txt) : (sT x == sT y) = (x == y) := by
  by_cases h : x = y
  · subst h; simp
  · rw [beq_eq_false_iff_ne.mpr h, beq_eq_false_iff_ne.mpr fun e => h (sT_inj e)]
mutual
theorem ddEq : ∀ {n m : Nat} {A : Around} {u v : Value} {a b : Ev.Dt}, DD s n u a → DD s m v b → A.units + (n + 1) < cLine → EqAt A s u v (Ev.Dt.eqv a b)
  | _, _, A, _, _, _, _, .non, .non, hu => EqAt.same _
  | _, _, A, _, _, _, _, .non, .bl b2, hu => EqAt.none_bool b2
  | _, _, A, _, _, _, _, .non, .int i2 t2, hu => EqAt.none_int i2 t2
  | _, _, A, _, _, _, _, .non, .str x2 t2, hu => EqAt.none_str (sT x2) t2
  | _, _, A, _, _, _, _, .non, .lst hl2 q2, hu => EqAt.none_list hl2 (room0 hu)
  | _, _, A, _, _, _, _, .non, .tup hl2 q2, hu => EqAt.none_tuple hl2 (room0 hu)
  | _, _, A, _, _, _, _, .bl b1, .non, hu => EqAt.bool_none b1
  | _, _, A, _, _, _, _, .bl b1, .bl b2, hu => EqAt.bool_bool b1 b2
  | _, _, A, _, _, _, _, .bl b1, .int i2 t2, hu => EqAt.bool_int b1 i2 t2
  | _, _, A, _, _, _, _, .bl b1, .str x2 t2, hu => EqAt.bool_str b1 (sT x2) t2
  | _, _, A, _, _, _, _, .bl b1, .lst hl2 q2, hu => EqAt.bool_list b1 hl2 (room0 hu)
  | _, _, A, _, _, _, _, .bl b1, .tup hl2 q2, hu => EqAt.bool_tuple b1 hl2 (room0 hu)
  | _, _, A, _, _, _, _, .int i1 t1, .non, hu => EqAt.int_none i1 t1
  | _, _, A, _, _, _, _, .int i1 t1, .bl b2, hu => EqAt.int_bool i1 t1 b2
  | _, _, A, _, _, _, _, .int i1 t1, .int i2 t2, hu => EqAt.int_int i1 t1 i2 t2
  | _, _, A, _, _, _, _, .int i1 t1, .str x2 t2, hu => EqAt.int_str i1 t1 (sT x2) t2
  | _, _, A, _, _, _, _, .int i1 t1, .lst hl2 q2, hu => EqAt.int_list i1 t1 hl2 (room0 hu)
  | _, _, A, _, _, _, _, .int i1 t1, .tup hl2 q2, hu => EqAt.int_tuple i1 t1 hl2 (room0 hu)
  | _, _, A, _, _, _, _, .str x1 t1, .non, hu => EqAt.str_none (sT x1) t1
  | _, _, A, _, _, _, _, .str x1 t1, .bl b2, hu => EqAt.str_bool (sT x1) t1 b2
  | _, _, A, _, _, _, _, .str x1 t1, .int i2 t2, hu => EqAt.str_int (sT x1) t1 i2 t2
  | _, _, A, _, _, _, _, .str x1 t1, .str x2 t2, hu => by
    have h := EqAt.str_str (sT x1) t1 (sT x2) t2 (A := A) (s := s)
    rw [str_eqb] at h
    exact h
  | _, _, A, _, _, _, _, .str x1 t1, .lst hl2 q2, hu => EqAt.str_list (sT x1) t1 hl2 (room0 hu)
  | _, _, A, _, _, _, _, .str x1 t1, .tup hl2 q2, hu => EqAt.str_tuple (sT x1) t1 hl2 (room0 hu)
  | _, _, A, _, _, _, _, .lst hl1 q1, .non, hu => EqAt.list_none hl1 (room0 hu)
  | _, _, A, _, _, _, _, .lst hl1 q1, .bl b2, hu => EqAt.list_bool b2 hl1 (room0 hu)
  | _, _, A, _, _, _, _, .lst hl1 q1, .int i2 t2, hu => EqAt.list_int i2 t2 hl1 (room0 hu)
  | _, _, A, _, _, _, _, .lst hl1 q1, .str x2 t2, hu => EqAt.list_str (sT x2) t2 hl1 (room0 hu)
  | _, _, A, _, _, _, _, @DD.lst _ _ l1 vs1 xs1 hl1 q1, @DD.lst _ _ l2 vs2 xs2 hl2 q2, hu => by
    show EqAt A s (.ref l1) (.ref l2) (Ev.Dt.eqvs xs1 xs2)
    have n1 : vs1.size = xs1.length := by simpa using q1.length
    have n2 : vs2.size = xs2.length := by simpa using q2.length
    have he : ∀ j (j1 : j < vs1.size) (j2 : j < vs2.size), EqAt A.in1 s vs1[j] vs2[j] (pairE xs1 xs2 j) := fun j j1 j2 => by
      have := ddsEq (A := A.in1) q1 q2 (room1 hu) j (by simpa using j1) (by simpa using j2)
      simpa using this
    by_cases hll : l1 = l2
    · subst hll
      obtain rfl := isList_inj hl1 hl2
      rw [q1.same q2, eqvs_refl]
      exact EqAt.same _
    · by_cases hsz : vs1.size = vs2.size
      · rw [← eqvs_len (by omega : xs1.length = xs2.length), ← n1]
        exact EqAt.of_refs hll (RcAt.lists hl1 hl2 hsz (room0 hu) he)
      · rw [eqvs_no (by omega : xs1.length ≠ xs2.length)]
        exact EqAt.of_refs hll (RcAt.lists_lengths hl1 hl2 (by simpa using hsz) (room0 hu))
  | _, _, A, _, _, _, _, .lst hl1 q1, .tup hl2 q2, hu => EqAt.list_tuple hl1 hl2 (room0 hu)
  | _, _, A, _, _, _, _, .tup hl1 q1, .non, hu => EqAt.tuple_none hl1 (room0 hu)
  | _, _, A, _, _, _, _, .tup hl1 q1, .bl b2, hu => EqAt.tuple_bool b2 hl1 (room0 hu)
  | _, _, A, _, _, _, _, .tup hl1 q1, .int i2 t2, hu => EqAt.tuple_int i2 t2 hl1 (room0 hu)
  | _, _, A, _, _, _, _, .tup hl1 q1, .str x2 t2, hu => EqAt.tuple_str (sT x2) t2 hl1 (room0 hu)
  | _, _, A, _, _, _, _, .tup hl1 q1, .lst hl2 q2, hu => EqAt.tuple_list hl1 hl2 (room0 hu)
  | _, _, A, _, _, _, _, @DD.tup _ _ l1 vs1 xs1 hl1 q1, @DD.tup _ _ l2 vs2 xs2 hl2 q2, hu => by
    show EqAt A s (.ref l1) (.ref l2) (Ev.Dt.eqvs xs1 xs2)
    have n1 : vs1.size = xs1.length := by simpa using q1.length
    have n2 : vs2.size = xs2.length := by simpa using q2.length
    have he : ∀ j (j1 : j < vs1.size) (j2 : j < vs2.size), EqAt A.in1 s vs1[j] vs2[j] (pairE xs1 xs2 j) := fun j j1 j2 => by
      have := ddsEq (A := A.in1) q1 q2 (room1 hu) j (by simpa using j1) (by simpa using j2)
      simpa using this
    by_cases hll : l1 = l2
    · subst hll
      obtain rfl := isTuple_inj hl1 hl2
      rw [q1.same q2, eqvs_refl]
      exact EqAt.same _
    · rw [← eqvs_eq xs1 xs2, ← n1, ← n2]
      exact EqAt.of_refs hll (RcAt.tuples hl1 hl2 (room0 hu) he)
theorem ddsEq : ∀ {n m : Nat} {A : Around} {us vs : List Value} {xs ys : List Ev.Dt}, DDs s n us xs → DDs s m vs ys → A.units + (n + 1) < cLine → ∀ j (h1 : j < us.length) (h2 : j < vs.length), EqAt A s us[j] vs[j] (pairE xs ys j)
  | _, _, _, _, _, _, _, .nil, _, _, j, h1, _ => absurd h1 (Nat.not_lt_zero _)
  | _, _, _, _, _, _, _, .cons _ _, .nil, _, j, _, h2 => absurd h2 (Nat.not_lt_zero _)
  | _, _, _, _, _, _, _, .cons r rs, .cons r' rs', hu, 0, _, _ => ddEq r r' hu
  | _, _, _, _, _, _, _, .cons r rs, .cons r' rs', hu, j + 1, h1, h2 => by
    rw [pairE_succ]
    exact ddsEq rs rs' hu j (Nat.lt_of_succ_lt_succ h1) (Nat.lt_of_succ_lt_succ h2)
end
theorem ddRc : ∀ {n m : Nat} {A : Around} {u v : Value} {a b : Ev.Dt}, DD s n u a → DD s m v b → A.units + (n + 1) < cLine → RcAt A s u v (Ev.Dt.eqv a b)
  | _, _, A, _, _, _, _, .non, .non, hu => RcAt.none_none
  | _, _, A, _, _, _, _, .non, .bl b2, hu => RcAt.none_bool b2
  | _, _, A, _, _, _, _, .non, .int i2 t2, hu => RcAt.none_int i2 t2
  | _, _, A, _, _, _, _, .non, .str x2 t2, hu => RcAt.none_str (sT x2) t2
  | _, _, A, _, _, _, _, .non, .lst hl2 q2, hu => RcAt.none_list hl2 (room0 hu)
  | _, _, A, _, _, _, _, .non, .tup hl2 q2, hu => RcAt.none_tuple hl2 (room0 hu)
  | _, _, A, _, _, _, _, .bl b1, .non, hu => RcAt.bool_none b1
  | _, _, A, _, _, _, _, .bl b1, .bl b2, hu => RcAt.bool_bool b1 b2
  | _, _, A, _, _, _, _, .bl b1, .int i2 t2, hu => RcAt.bool_int b1 i2 t2
  | _, _, A, _, _, _, _, .bl b1, .str x2 t2, hu => RcAt.bool_str b1 (sT x2) t2
  | _, _, A, _, _, _, _, .bl b1, .lst hl2 q2, hu => RcAt.bool_list b1 hl2 (room0 hu)
  | _, _, A, _, _, _, _, .bl b1, .tup hl2 q2, hu => RcAt.bool_tuple b1 hl2 (room0 hu)
  | _, _, A, _, _, _, _, .int i1 t1, .non, hu => RcAt.int_none i1 t1
  | _, _, A, _, _, _, _, .int i1 t1, .bl b2, hu => RcAt.int_bool i1 t1 b2
  | _, _, A, _, _, _, _, .int i1 t1, .int i2 t2, hu => RcAt.int_int i1 t1 i2 t2
  | _, _, A, _, _, _, _, .int i1 t1, .str x2 t2, hu => RcAt.int_str i1 t1 (sT x2) t2
  | _, _, A, _, _, _, _, .int i1 t1, .lst hl2 q2, hu => RcAt.int_list i1 t1 hl2 (room0 hu)
  | _, _, A, _, _, _, _, .int i1 t1, .tup hl2 q2, hu => RcAt.int_tuple i1 t1 hl2 (room0 hu)
  | _, _, A, _, _, _, _, .str x1 t1, .non, hu => RcAt.str_none (sT x1) t1
  | _, _, A, _, _, _, _, .str x1 t1, .bl b2, hu => RcAt.str_bool (sT x1) t1 b2
  | _, _, A, _, _, _, _, .str x1 t1, .int i2 t2, hu => RcAt.str_int (sT x1) t1 i2 t2
  | _, _, A, _, _, _, _, .str x1 t1, .str x2 t2, hu => by
    have h := RcAt.str_str (sT x1) t1 (sT x2) t2 (A := A) (s := s)
    rw [str_eqb] at h
    exact h
  | _, _, A, _, _, _, _, .str x1 t1, .lst hl2 q2, hu => RcAt.str_list (sT x1) t1 hl2 (room0 hu)
  | _, _, A, _, _, _, _, .str x1 t1, .tup hl2 q2, hu => RcAt.str_tuple (sT x1) t1 hl2 (room0 hu)
  | _, _, A, _, _, _, _, .lst hl1 q1, .non, hu => RcAt.list_none hl1 (room0 hu)
  | _, _, A, _, _, _, _, .lst hl1 q1, .bl b2, hu => RcAt.list_bool b2 hl1 (room0 hu)
  | _, _, A, _, _, _, _, .lst hl1 q1, .int i2 t2, hu => RcAt.list_int i2 t2 hl1 (room0 hu)
  | _, _, A, _, _, _, _, .lst hl1 q1, .str x2 t2, hu => RcAt.list_str (sT x2) t2 hl1 (room0 hu)
  | _, _, A, _, _, _, _, @DD.lst _ _ l1 vs1 xs1 hl1 q1, @DD.lst _ _ l2 vs2 xs2 hl2 q2, hu => by
    show RcAt A s (.ref l1) (.ref l2) (Ev.Dt.eqvs xs1 xs2)
    have n1 : vs1.size = xs1.length := by simpa using q1.length
    have n2 : vs2.size = xs2.length := by simpa using q2.length
    have he : ∀ j (j1 : j < vs1.size) (j2 : j < vs2.size), EqAt A.in1 s vs1[j] vs2[j] (pairE xs1 xs2 j) := fun j j1 j2 => by
      have := ddsEq (A := A.in1) q1 q2 (room1 hu) j (by simpa using j1) (by simpa using j2)
      simpa using this
    by_cases hsz : vs1.size = vs2.size
    · rw [← eqvs_len (by omega : xs1.length = xs2.length), ← n1]
      exact (RcAt.lists hl1 hl2 hsz (room0 hu) he)
    · rw [eqvs_no (by omega : xs1.length ≠ xs2.length)]
      exact (RcAt.lists_lengths hl1 hl2 (by simpa using hsz) (room0 hu))
  | _, _, A, _, _, _, _, .lst hl1 q1, .tup hl2 q2, hu => RcAt.list_tuple hl1 hl2 (room0 hu)
  | _, _, A, _, _, _, _, .tup hl1 q1, .non, hu => RcAt.tuple_none hl1 (room0 hu)
  | _, _, A, _, _, _, _, .tup hl1 q1, .bl b2, hu => RcAt.tuple_bool b2 hl1 (room0 hu)
  | _, _, A, _, _, _, _, .tup hl1 q1, .int i2 t2, hu => RcAt.tuple_int i2 t2 hl1 (room0 hu)
  | _, _, A, _, _, _, _, .tup hl1 q1, .str x2 t2, hu => RcAt.tuple_str (sT x2) t2 hl1 (room0 hu)
  | _, _, A, _, _, _, _, .tup hl1 q1, .lst hl2 q2, hu => RcAt.tuple_list hl1 hl2 (room0 hu)
  | _, _, A, _, _, _, _, @DD.tup _ _ l1 vs1 xs1 hl1 q1, @DD.tup _ _ l2 vs2 xs2 hl2 q2, hu => by
    show RcAt A s (.ref l1) (.ref l2) (Ev.Dt.eqvs xs1 xs2)
    have n1 : vs1.size = xs1.length := by simpa using q1.length
    have n2 : vs2.size = xs2.length := by simpa using q2.length
    have he : ∀ j (j1 : j < vs1.size) (j2 : j < vs2.size), EqAt A.in1 s vs1[j] vs2[j] (pairE xs1 xs2 j) := fun j j1 j2 => by
      have := ddsEq (A := A.in1) q1 q2 (room1 hu) j (by simpa using j1) (by simpa using j2)
      simpa using this
    rw [← eqvs_eq xs1 xs2, ← n1, ← n2]
    exact (RcAt.tuples hl1 hl2 (room0 hu) he)
theorem ddNe : ∀ {n m : Nat} {A : Around} {u v : Value} {a b : Ev.Dt}, DD s n u a → DD s m v b → A.units + (n + 1) < cLine → RcNeAt A s u v (!Ev.Dt.eqv a b)
  | _, _, A, _, _, _, _, .non, .non, hu => RcNeAt.none_none
  | _, _, A, _, _, _, _, .non, .bl b2, hu => RcNeAt.none_bool b2
  | _, _, A, _, _, _, _, .non, .int i2 t2, hu => RcNeAt.none_int i2 t2
  | _, _, A, _, _, _, _, .non, .str x2 t2, hu => RcNeAt.none_str (sT x2) t2
  | _, _, A, _, _, _, _, .non, .lst hl2 q2, hu => RcNeAt.none_list hl2 (room0 hu)
  | _, _, A, _, _, _, _, .non, .tup hl2 q2, hu => RcNeAt.none_tuple hl2 (room0 hu)
  | _, _, A, _, _, _, _, .bl b1, .non, hu => RcNeAt.bool_none b1
  | _, _, A, _, _, _, _, .bl b1, .bl b2, hu => RcNeAt.bool_bool b1 b2
  | _, _, A, _, _, _, _, .bl b1, .int i2 t2, hu => RcNeAt.bool_int b1 i2 t2
  | _, _, A, _, _, _, _, .bl b1, .str x2 t2, hu => RcNeAt.bool_str b1 (sT x2) t2
  | _, _, A, _, _, _, _, .bl b1, .lst hl2 q2, hu => RcNeAt.bool_list b1 hl2 (room0 hu)
  | _, _, A, _, _, _, _, .bl b1, .tup hl2 q2, hu => RcNeAt.bool_tuple b1 hl2 (room0 hu)
  | _, _, A, _, _, _, _, .int i1 t1, .non, hu => RcNeAt.int_none i1 t1
  | _, _, A, _, _, _, _, .int i1 t1, .bl b2, hu => RcNeAt.int_bool i1 t1 b2
  | _, _, A, _, _, _, _, .int i1 t1, .int i2 t2, hu => RcNeAt.int_int i1 t1 i2 t2
  | _, _, A, _, _, _, _, .int i1 t1, .str x2 t2, hu => RcNeAt.int_str i1 t1 (sT x2) t2
  | _, _, A, _, _, _, _, .int i1 t1, .lst hl2 q2, hu => RcNeAt.int_list i1 t1 hl2 (room0 hu)
  | _, _, A, _, _, _, _, .int i1 t1, .tup hl2 q2, hu => RcNeAt.int_tuple i1 t1 hl2 (room0 hu)
  | _, _, A, _, _, _, _, .str x1 t1, .non, hu => RcNeAt.str_none (sT x1) t1
  | _, _, A, _, _, _, _, .str x1 t1, .bl b2, hu => RcNeAt.str_bool (sT x1) t1 b2
  | _, _, A, _, _, _, _, .str x1 t1, .int i2 t2, hu => RcNeAt.str_int (sT x1) t1 i2 t2
  | _, _, A, _, _, _, _, .str x1 t1, .str x2 t2, hu => by
    have h := RcNeAt.str_str (sT x1) t1 (sT x2) t2 (A := A) (s := s)
    rw [str_eqb] at h
    exact h
  | _, _, A, _, _, _, _, .str x1 t1, .lst hl2 q2, hu => RcNeAt.str_list (sT x1) t1 hl2 (room0 hu)
  | _, _, A, _, _, _, _, .str x1 t1, .tup hl2 q2, hu => RcNeAt.str_tuple (sT x1) t1 hl2 (room0 hu)
  | _, _, A, _, _, _, _, .lst hl1 q1, .non, hu => RcNeAt.list_none hl1 (room0 hu)
  | _, _, A, _, _, _, _, .lst hl1 q1, .bl b2, hu => RcNeAt.list_bool b2 hl1 (room0 hu)
  | _, _, A, _, _, _, _, .lst hl1 q1, .int i2 t2, hu => RcNeAt.list_int i2 t2 hl1 (room0 hu)
  | _, _, A, _, _, _, _, .lst hl1 q1, .str x2 t2, hu => RcNeAt.list_str (sT x2) t2 hl1 (room0 hu)
  | _, _, A, _, _, _, _, @DD.lst _ _ l1 vs1 xs1 hl1 q1, @DD.lst _ _ l2 vs2 xs2 hl2 q2, hu => by
    show RcNeAt A s (.ref l1) (.ref l2) (!Ev.Dt.eqvs xs1 xs2)
    have n1 : vs1.size = xs1.length := by simpa using q1.length
    have n2 : vs2.size = xs2.length := by simpa using q2.length
    have he : ∀ j (j1 : j < vs1.size) (j2 : j < vs2.size), EqAt A.in1 s vs1[j] vs2[j] (pairE xs1 xs2 j) := fun j j1 j2 => by
      have := ddsEq (A := A.in1) q1 q2 (room1 hu) j (by simpa using j1) (by simpa using j2)
      simpa using this
    by_cases hsz : vs1.size = vs2.size
    · rw [← eqvs_len (by omega : xs1.length = xs2.length), ← n1]
      exact (RcNeAt.lists hl1 hl2 hsz (room0 hu) he)
    · rw [eqvs_no (by omega : xs1.length ≠ xs2.length)]
      exact (RcNeAt.lists_lengths hl1 hl2 (by simpa using hsz) (room0 hu))
  | _, _, A, _, _, _, _, .lst hl1 q1, .tup hl2 q2, hu => RcNeAt.list_tuple hl1 hl2 (room0 hu)
  | _, _, A, _, _, _, _, .tup hl1 q1, .non, hu => RcNeAt.tuple_none hl1 (room0 hu)
  | _, _, A, _, _, _, _, .tup hl1 q1, .bl b2, hu => RcNeAt.tuple_bool b2 hl1 (room0 hu)
  | _, _, A, _, _, _, _, .tup hl1 q1, .int i2 t2, hu => RcNeAt.tuple_int i2 t2 hl1 (room0 hu)
  | _, _, A, _, _, _, _, .tup hl1 q1, .str x2 t2, hu => RcNeAt.tuple_str (sT x2) t2 hl1 (room0 hu)
  | _, _, A, _, _, _, _, .tup hl1 q1, .lst hl2 q2, hu => RcNeAt.tuple_list hl1 hl2 (room0 hu)
  | _, _, A, _, _, _, _, @DD.tup _ _ l1 vs1 xs1 hl1 q1, @DD.tup _ _ l2 vs2 xs2 hl2 q2, hu => by
    show RcNeAt A s (.ref l1) (.ref l2) (!Ev.Dt.eqvs xs1 xs2)
    have n1 : vs1.size = xs1.length := by simpa using q1.length
    have n2 : vs2.size = xs2.length := by simpa using q2.length
    have he : ∀ j (j1 : j < vs1.size) (j2 : j < vs2.size), EqAt A.in1 s vs1[j] vs2[j] (pairE xs1 xs2 j) := fun j j1 j2 => by
      have := ddsEq (A := A.in1) q1 q2 (room1 hu) j (by simpa using j1) (by simpa using j2)
      simpa using this
    rw [← eqvs_eq xs1 xs2, ← n1, ← n2]
    exact (RcNeAt.tuples hl1 hl2 (room0 hu) he)
end
end EvS
set_option Elab.async false
set_option linter.all false
set_option maxRecDepth 100000
set_option maxHeartbeats 1000000
/-! EvE: comparisons, truth, places, slices. -/
namespace EvS
open PySem PySem.Spec PyProof.Rows L2 SeqAt

section
variable {X : Cx} {cls : Nat → Option Addr} {σ : L2.St} {H : Hp} {ι : List Addr} {h h' : Ev.Heap} {pins : List (Addr × Obj)} {s : Shared}
/-- the list that a cell shows -/
theorem Rep.seq (R : Rep X.K cls H ι h) {i : Nat} {v : V} {xs : List Ev.D} (r : RV X.K H ι (.ref i) v) (hx : h.get i = some (.lst xs) ∨ h.get i = some (.fro xs)) :
    ∃ a vs, v = .ref a ∧ ι[i]? = some a ∧ SqL X.K H a vs ∧ RVs X.K H ι xs vs := by
  obtain ⟨a, rfl, ha, hc⟩ := R.of_ref r
  rcases hx with hx | hx
  · obtain ⟨vs, e, q⟩ := hc _ hx
    exact ⟨a, vs, rfl, ha, .of e, q⟩
  · obtain ⟨o, vs, e, q⟩ := hc _ hx
    exact ⟨a, vs, rfl, ha, .inl (.inr ⟨o, e⟩), q⟩
theorem items_of {xs : List Ev.D} {x : Ev.D} {v : V} (R : Rep X.K cls H ι h) (r : RV X.K H ι x v) (e : Ev.items h x = some xs) :
    ∃ a vs, v = .ref a ∧ (SqL X.K H a vs ∨ SqT X.K H a vs) ∧ RVs X.K H ι xs vs := by
  unfold Ev.items at e
  split at e
  · cases e
    cases r with
    | tup t q => exact ⟨_, _, rfl, .inr t, q⟩
  · split at e
    · rename_i c; cases e
      obtain ⟨a, vs, rfl, _, q, w⟩ := R.seq r (.inl c)
      exact ⟨a, vs, rfl, .inl q, w⟩
    · rename_i c; cases e
      obtain ⟨a, vs, rfl, _, q, w⟩ := R.seq r (.inr c)
      exact ⟨a, vs, rfl, .inl q, w⟩
    · cases e
  · cases e
theorem dat_all (I : Inv X pins σ H s) (R : Rep X.K cls H ι h) {n : Nat} (ih : ∀ (x : Ev.D) (d : Ev.Dt) (v : V) (u : Value), Ev.dat h n x = some d → RV X.K H ι x v → RelV v u → DD s n u d) :
    ∀ {xs : List Ev.D} {ds : List Ev.Dt} {vs : List V} {us : List Value}, xs.mapM (Ev.dat h n) = some ds → RVs X.K H ι xs vs → Vals vs us → DDs s n us ds
  | [], ds, _, _, e, .nil, .nil => by
    simp at e; subst e; exact .nil
  | x :: xs, ds, _, _, e, .cons r t, .cons q w => by
    rw [List.mapM_cons] at e
    cases h1 : Ev.dat h n x with
    | none => rw [h1] at e; cases e
    | some d =>
      cases h2 : xs.mapM (Ev.dat h n) with
      | none => rw [h1, h2] at e; cases e
      | some es =>
        rw [h1, h2] at e
        cases e
        exact .cons (ih _ _ _ _ h1 r q) (dat_all I R ih h2 t w)
theorem dat_dd (I : Inv X pins σ H s) (R : Rep X.K cls H ι h) : ∀ (n : Nat) (x : Ev.D) (d : Ev.Dt) (v : V) (u : Value), Ev.dat h n x = some d → RV X.K H ι x v → RelV v u → DD s n u d := by
  intro n
  induction n with
  | zero =>
    intro x d v u e r q
    cases r with
    | non => simp [Ev.dat] at e; subst e; cases q; exact .non
    | bl b => simp [Ev.dat] at e; subst e; cases q; exact .bl _
    | int i => simp [Ev.dat] at e; subst e; obtain ⟨t, rfl⟩ := q; exact .int _ _
    | str y hy => simp [Ev.dat] at e; subst e; obtain ⟨t, rfl⟩ := q; exact .str _ _
    | ref _ => simp [Ev.dat] at e
    | tup _ _ => simp [Ev.dat] at e
  | succ n ih =>
    intro x d v u e r q
    cases r with
    | non => simp [Ev.dat] at e; subst e; cases q; exact .non
    | bl b => simp [Ev.dat] at e; subst e; cases q; exact .bl _
    | int i => simp [Ev.dat] at e; subst e; obtain ⟨t, rfl⟩ := q; exact .int _ _
    | str y hy => simp [Ev.dat] at e; subst e; obtain ⟨t, rfl⟩ := q; exact .str _ _
    | @ref i a hi =>
      cases q
      unfold Ev.dat at e
      split at e
      · rename_i xs c
        obtain ⟨ds, e1, e2⟩ := Option.map_eq_some_iff.mp e
        subst e2
        obtain ⟨b, vs, e3, _, hq, w⟩ := R.seq (.ref hi) (.inl c)
        cases e3
        obtain ⟨its, rv, pl, _⟩ := I.list hq
        exact .lst pl.isList (dat_all I R ih e1 w (by simpa using rv))
      · rename_i xs c
        obtain ⟨ds, e1, e2⟩ := Option.map_eq_some_iff.mp e
        subst e2
        obtain ⟨b, vs, e3, _, hq, w⟩ := R.seq (.ref hi) (.inr c)
        cases e3
        obtain ⟨its, rv, pl, _⟩ := I.list hq
        exact .lst pl.isList (dat_all I R ih e1 w (by simpa using rv))
      · cases e
    | @tup xs a vs hq w =>
      cases q
      unfold Ev.dat at e
      obtain ⟨ds, e1, e2⟩ := Option.map_eq_some_iff.mp e
      subst e2
      obtain ⟨its, rv, pl, _⟩ := I.tuple hq
      exact .tup (show s.heap.IsTuple a its.toArray from pl) (dat_all I R ih e1 w (by simpa using rv))
theorem sf_eq {x y : Ev.D} {vx vy : V} {b : Bool} (hu : X.A.units + 64 < cLine) (e : Ev.eqV x y h = some b) (R : Rep X.K cls H ι h) (rx : RV X.K H ι x vx) (ry : RV X.K H ι y vy) :
    SF2 X (compareOp .Eq) vx vy σ H (PQ X.K cls H ι (.bl b) h) ∧ SF2 X (compareOp .NotEq) vx vy σ H (PQ X.K cls H ι (.bl (!b)) h) := by
  unfold Ev.eqV at e
  split at e
  · rename_i d1 d2 h1 h2
    cases e
    refine ⟨fun pins s v u _ I r1 r2 => ?_, fun pins s v u _ I r1 r2 => ?_⟩
    · exact ddRc (A := X.A) (dat_dd I R _ _ _ _ _ h1 rx r1) (dat_dd I R _ _ _ _ _ h2 ry r2) (by unfold Ev.DEEP; omega) X.prog X.w X.xe _ ⟨.bl _, H, I, rfl, .here R (.bl _)⟩
    · exact ddNe (A := X.A) (dat_dd I R _ _ _ _ _ h1 rx r1) (dat_dd I R _ _ _ _ _ h2 ry r2) (by unfold Ev.DEEP; omega) X.prog X.w X.xe _ ⟨.bl _, H, I, rfl, .here R (.bl _)⟩
  · cases e
/-! ### in -/
theorem isInfix_iff (t : Ev.Txt) : ∀ s : Ev.Txt, Ev.isInfix t s = true ↔ ∃ i, i + t.length ≤ s.length ∧ (s.drop i).take t.length = t
  | [] => by
    unfold Ev.isInfix
    constructor
    · intro h
      have : t = [] := by simpa using h
      subst this
      exact ⟨0, by simp, by simp⟩
    · rintro ⟨i, h1, h2⟩
      simp at h1
      simp [h1.2]
  | c :: s => by
    unfold Ev.isInfix
    rw [Bool.or_eq_true, isInfix_iff t s]
    constructor
    · rintro (h | ⟨i, h1, h2⟩)
      · obtain ⟨r, hr⟩ := List.isPrefixOf_iff_prefix.mp h
        refine ⟨0, ?_, ?_⟩
        · rw [← hr]; simp
        · rw [← hr]; simp
      · exact ⟨i + 1, by simp; omega, by simpa using h2⟩
    · rintro ⟨i, h1, h2⟩
      cases i with
      | zero =>
        left
        rw [List.isPrefixOf_iff_prefix]
        exact ⟨(c :: s).drop t.length, by
          have := List.take_append_drop t.length (c :: s)
          simp at h2
          rw [h2] at this
          exact this⟩
      | succ i => exact .inr ⟨i, by simp at h1; omega, by simpa using h2⟩
theorem infix_found (t s : Ev.Txt) : (!(Builtin.Str.occurrences (sT s) (sT t) 0 (sT s).length 1).isEmpty) = Ev.isInfix t s := by
  rw [Bool.eq_iff_iff, StrLaws.found_iff, isInfix_iff]
  simp only [sT_len, StrLaws.subAt_eq, beq_iff_eq]
  exact Iff.rfl
theorem flatV_of {K : PySem.W.Frag} {x : Ev.D} {v : V} (r : RV K H ι x v) (f : Ev.flat x = true) : flatV v = true := by
  cases r <;> first | rfl | cases f
theorem eqV_of {K : PySem.W.Frag} {x y : Ev.D} {v w : V} (r : RV K H ι x v) (q : RV K H ι y w) (f : Ev.flat x = true) (g : Ev.flat y = true) : eqV v w = Ev.eqF x y := by
  cases r <;> cases q <;> first | rfl | (cases f; done) | (cases g; done) | exact str_eqb _ _
theorem allFlat {K : PySem.W.Frag} : ∀ {xs : List Ev.D} {vs : List V}, RVs K H ι xs vs → xs.all Ev.flat = true → vs.all flatV = true
  | _, _, .nil, _ => rfl
  | _, _, .cons r t, f => by
    rw [List.all_cons, Bool.and_eq_true] at f ⊢
    exact ⟨flatV_of r f.1, allFlat t f.2⟩
theorem anyEq {K : PySem.W.Frag} {x : Ev.D} {v : V} (r : RV K H ι x v) (fx : Ev.flat x = true) : ∀ {xs : List Ev.D} {vs : List V}, RVs K H ι xs vs → xs.all Ev.flat = true → inV v vs = xs.any fun y => Ev.eqF y x
  | _, _, .nil, _ => rfl
  | _, _, .cons q t, f => by
    rw [List.all_cons, Bool.and_eq_true] at f
    have ih := anyEq r fx t f.2
    unfold inV at ih ⊢
    rw [List.any_cons, List.any_cons, ih, eqV_of q r f.1 fx]
theorem key_of' {K : PySem.W.Frag} {x : Ev.D} {v : V} {k : Ev.Ky} (r : RV K H ι x v) (e : Ev.keyOf x = some k) : v = kV (kK k) := by
  unfold Ev.keyOf at e
  split at e
  · cases e; cases r; rfl
  · cases e; cases r; rfl
  · cases e
theorem look_some {K : PySem.W.Frag} {kvs : List (Ev.Ky × Ev.D)} {ws : List (Key × V)} (r : RKs K H ι kvs ws) (k : Ev.Ky) : (valV ws (kK k)).isSome = (Ev.dlook kvs k).isSome := by
  have := r.look k
  split at this
  · rename_i d e
    obtain ⟨v, hv, _⟩ := this
    rw [hv, e]; rfl
  · rename_i e
    rw [this, e]; rfl
theorem sf_in {x y : Ev.D} {vx vy : V} {b : Bool} (hu : X.A.units + 64 < cLine) (e : Ev.inV x y h = some b) (R : Rep X.K cls H ι h) (rx : RV X.K H ι x vx) (ry : RV X.K H ι y vy) :
    SF2 X (compareOp .In) vx vy σ H (PQ X.K cls H ι (.bl b) h) ∧ SF2 X (compareOp .NotIn) vx vy σ H (PQ X.K cls H ι (.bl (!b)) h) := by
  have seq : ∀ {a : Addr} {vs : List V} {xs : List Ev.D}, (SqL X.K H a vs ∨ SqT X.K H a vs) → RVs X.K H ι xs vs → (if Ev.flat x && xs.all Ev.flat then some (xs.any fun y => Ev.eqF y x) else none) = some b →
      SF2 X (compareOp .In) vx (.ref a) σ H (PQ X.K cls H ι (.bl b) h) ∧ SF2 X (compareOp .NotIn) vx (.ref a) σ H (PQ X.K cls H ι (.bl (!b)) h) := by
    intro a vs xs hq w e
    split at e
    · rename_i c
      cases e
      rw [Bool.and_eq_true] at c
      have e1 := anyEq rx c.1 w c.2
      refine ⟨.of op_in_seq ⟨_, _, rfl, hq, flatV_of rx c.1, allFlat w c.2, ?_⟩, .of op_notIn_seq ⟨_, _, rfl, hq, flatV_of rx c.1, allFlat w c.2, ?_⟩⟩
      · rw [if_neg Bool.false_ne_true, e1]; exact .here R (.bl _)
      · rw [if_pos rfl, e1]; exact .here R (.bl _)
    · cases e
  unfold Ev.inV at e
  split at e
  · split at e
    · cases e
      cases rx
      cases ry
      refine ⟨.of op_in_str ⟨_, _, rfl, rfl, ?_⟩, .of op_notIn_str ⟨_, _, rfl, rfl, ?_⟩⟩
      · rw [infix_found]; exact .here R (.bl _)
      · rw [infix_found]; exact .here R (.bl _)
    · cases e
  · split at e
    · rename_i kvs c
      obtain ⟨k, e1, e2⟩ := Option.map_eq_some_iff.mp e
      subst e2
      obtain ⟨a, rfl, _, hc⟩ := R.of_ref ry
      obtain ⟨ws, hw, q, _⟩ := hc _ c
      have ek := key_of' rx e1
      subst ek
      have g : DGet H a (kV (kK k)) (valV ws (kK k)) := .k hw
      refine ⟨fun pins s v u _ I r1 r2 => ?_, fun pins s v u _ I r1 r2 => ?_⟩
      · cases r2
        exact d_in (by omega) I g r1 fun s' I' => ⟨.bl _, H, I', rfl, by rw [look_some q]; exact .here R (.bl _)⟩
      · cases r2
        exact d_notIn (by omega) I g r1 fun s' I' => ⟨.bl _, H, I', rfl, by rw [look_some q]; exact .here R (.bl _)⟩
    · rename_i xs c
      obtain ⟨a, vs, rfl, _, q, w⟩ := R.seq ry (.inl c)
      exact seq (.inl q) w e
    · rename_i xs c
      obtain ⟨a, vs, rfl, _, q, w⟩ := R.seq ry (.inr c)
      exact seq (.inl q) w e
    · cases e
  · cases ry with
    | tup t w => exact seq (.inr t) w e
  · cases e

/-! ### order -/
theorem ltT_lt : ∀ s t : Ev.Txt, decide (s < t) = Ev.ltT s t
  | s, [] => by cases s <;> simp [Ev.ltT]
  | [], _ :: _ => by simp [Ev.ltT]
  | a :: s, b :: t => by
    have ih := ltT_lt s t
    unfold Ev.ltT
    rw [← ih]
    by_cases h1 : a < b
    · rw [if_pos h1, decide_eq_true_iff]; exact List.Lex.rel h1
    · rw [if_neg h1]
      by_cases h2 : a = b
      · rw [if_pos h2]; subst h2; simp
      · rw [if_neg h2, decide_eq_false_iff_not]
        intro hc
        cases hc with
        | rel r => exact h1 r
        | cons r => exact h2 rfl
def cO : Ev.COp → CmpOp
  | .eq => .Eq | .ne => .NotEq | .lt => .Lt | .le => .LtE | .gt => .Gt | .ge => .GtE | .isin => .In | .notin => .NotIn | .isn => .Is | .notn => .IsNot
theorem isnone_of {K : PySem.W.Frag} {x : Ev.D} {v : V} (r : RV K H ι x v) : decide (v = .non) = (match x with | .non => true | _ => false) := by
  cases r <;> rfl
theorem sf_cmp {o : Ev.COp} {x y : Ev.D} {vx vy : V} {b : Bool} (hu : X.A.units + 64 < cLine) (e : Ev.cmpV o x y h = some b) (R : Rep X.K cls H ι h) (rx : RV X.K H ι x vx) (ry : RV X.K H ι y vy) :
    SF2 X (compareOp (cO o)) vx vy σ H (PQ X.K cls H ι (.bl b) h) := by
  unfold Ev.cmpV at e
  split at e
  · exact (sf_eq hu e R rx ry).1
  · obtain ⟨c, e1, e2⟩ := Option.map_eq_some_iff.mp e
    subst e2
    exact (sf_eq hu e1 R rx ry).2
  · split at e
    · cases ry
      refine .of op_isN ⟨rfl, ?_⟩
      cases rx <;> (cases e; exact .here R (.bl _))
    · cases e
  · split at e
    · cases ry
      refine .of op_notN ⟨rfl, ?_⟩
      cases rx <;> (cases e; exact .here R (.bl _))
    · cases e
  · exact (sf_in hu e R rx ry).1
  · obtain ⟨c, e1, e2⟩ := Option.map_eq_some_iff.mp e
    subst e2
    exact (sf_in hu e1 R rx ry).2
  · split at e
    · cases e; cases rx; cases ry; exact .of op_lt ⟨_, _, rfl, rfl, .here R (.bl _)⟩
    · cases e
  · split at e
    · cases e; cases rx; cases ry; exact .of op_le ⟨_, _, rfl, rfl, .here R (.bl _)⟩
    · cases e; cases rx; cases ry
      refine .of op_le_str ⟨_, _, rfl, rfl, ?_⟩
      rw [← ltT_lt]
      exact .here R (.bl _)
    · cases e
  · split at e
    · cases e; cases rx; cases ry; exact .of op_gt ⟨_, _, rfl, rfl, .here R (.bl _)⟩
    · cases e
  · split at e
    · cases e; cases rx; cases ry; exact .of op_ge ⟨_, _, rfl, rfl, .here R (.bl _)⟩
    · cases e

/-! ### truth -/
theorem tru_of {x : Ev.D} {v : V} {b : Bool} (e : Ev.truth h x = some b) (R : Rep X.K cls H ι h) (r : RV X.K H ι x v) : TruV X.K v H b := by
  have emp : ∀ {xs : List Ev.D} {vs : List V}, RVs X.K H ι xs vs → (!xs.isEmpty) = !vs.isEmpty := by
    intro xs vs w
    cases w <;> rfl
  unfold Ev.truth at e
  split at e
  · cases e; cases r; rfl
  · cases e; cases r; rfl
  · cases e; cases r; rfl
  · rename_i t
    cases e
    cases r with
    | str _ hs =>
    refine ⟨by rw [sT_len, ← LINE_eq]; exact hs, ?_⟩
    rw [sT_len]
    cases t <;> rfl
  · cases e
    cases r with
    | tup t w => exact .inr (.inl ⟨_, t, emp w⟩)
  · split at e
    · rename_i c; cases e
      obtain ⟨a, vs, rfl, _, q, w⟩ := R.seq r (.inl c)
      exact .inl ⟨_, q, emp w⟩
    · rename_i c; cases e
      obtain ⟨a, vs, rfl, _, q, w⟩ := R.seq r (.inr c)
      exact .inl ⟨_, q, emp w⟩
    · rename_i c; cases e
      obtain ⟨a, rfl, _, hc⟩ := R.of_ref r
      obtain ⟨ws, hw, q, _⟩ := hc _ c
      refine .inr (.inr ⟨ws, hw, ?_⟩)
      cases q <;> rfl
    · cases e
  · cases e
end
end EvS
set_option Elab.async false
set_option linter.all false
set_option maxRecDepth 100000
set_option maxHeartbeats 1000000
/-! EvF: places, slices, fields, stores. -/
namespace EvS
open PySem PySem.Spec PyProof.Rows L2

section
variable {X : Cx} {cls : Nat → Option Addr} {σ : L2.St} {H : Hp} {ι : List Addr} {h h' : Ev.Heap}
/-- x[y], by values -/
def IX (X : Cx) (x y : V) (σ : L2.St) (H : Hp) (Q : VK) : Prop :=
  ∀ (value slice : Expr) (pins : List (Addr × Obj)) (s : Shared) (v u : Value), Inv X pins σ H s → RelV x v → RelV y u → subscripted slice false v u = operate [v, u] (getItem v u) →
    wpAny (model X.prog X.w) X.A (subscriptTail value slice v u) (EP X pins σ Q) X.xe s
theorem IX.of {r : R2} (hr : IxR X r) {x y : V} {Q : VK} (q : r x y H Q) : IX X x y σ H Q := fun value slice pins s v u I rx ry hs => hr value slice pins s σ H x y v u Q I rx ry q hs
theorem IX.imp {x y : V} {Q Q' : VK} (h : IX X x y σ H Q) (q : ∀ v H', Q v H' → Q' v H') : IX X x y σ H Q' :=
  fun value slice pins s v u I rx ry hs => thn (h value slice pins s v u I rx ry hs) fun _ _ ⟨z, H1, I1, r, w⟩ => ⟨z, H1, I1, r, q z H1 w⟩
theorem se_idx {a b : Expr} {pos : Pos} {Q : VK} (h : SE X a σ H fun x H1 => SE X b σ H1 fun y H2 => IX X x y σ H2 Q) (hs : PlainIx b) : SE X (.Subscript a b pos) σ H Q :=
  fun pins s tb I => Subscript_ (two tb I h fun v u s2 x y H2 t2 I2 rx ry q => q a b pins s2 v u I2 rx ry (hs _ _))
theorem place_ixN (n : Nat) (i : Int) : Ev.place n i = ixN n i := rfl
theorem sT_get (s : Ev.Txt) : (sT s).cps.toList = s := by simp [sT]
theorem sT_one (c : Nat) : sT [c] = ⟨#[c]⟩ := by simp [sT]
theorem one_ok {K : PySem.W.Frag} (c : Nat) : RV K H ι (.str [c]) (.str ⟨#[c]⟩) := by
  rw [← sT_one]; exact .str _ (by simp [Ev.LINE])
theorem ix_ok {x y d : Ev.D} {vx vy : V} (hu : X.A.units + 64 < cLine) (e : Ev.idxV x y h = some d) (R : Rep X.K cls H ι h) (rx : RV X.K H ι x vx) (ry : RV X.K H ι y vy) : IX X vx vy σ H (PQ X.K cls H ι d h) := by
  have seq : ∀ {a : Addr} {vs : List V} {xs : List Ev.D} {i : Int}, SqL X.K H a vs → RVs X.K H ι xs vs → ((Ev.place xs.length i).bind fun j => xs[j]?) = some d → IX X (.ref a) (.int i) σ H (PQ X.K cls H ι d h) := by
    intro a vs xs i hq w e
    obtain ⟨j, e1, e2⟩ := Option.bind_eq_some_iff.mp e
    obtain ⟨v, hv, r⟩ := w.get e2
    refine .of ix_list ⟨_, _, _, v, rfl, rfl, hq, ?_, .here R r⟩
    unfold atI
    rw [w.length, ← place_ixN, e1]
    exact hv
  unfold Ev.idxV at e
  split at e
  · obtain ⟨c, e0, e2⟩ := Option.map_eq_some_iff.mp e
    obtain ⟨j, e1, e3⟩ := Option.bind_eq_some_iff.mp e0
    subst e2
    cases ry
    cases rx with
    | str _ hs =>
    refine .of ix_str ⟨_, _, c, rfl, rfl, by rw [sT_len, ← LINE_eq]; exact hs, ?_, .here R (one_ok c)⟩
    rw [sT_get]
    unfold atI
    rw [← place_ixN, e1]
    exact e3
  · obtain ⟨j, e1, e2⟩ := Option.bind_eq_some_iff.mp e
    cases ry
    cases rx with
    | tup t w =>
    obtain ⟨v, hv, r⟩ := w.get e2
    refine .of ix_tup ⟨_, _, _, v, rfl, rfl, t, ?_, .here R r⟩
    unfold atI
    rw [w.length, ← place_ixN, e1]
    exact hv
  · split at e
    · rename_i kvs c
      obtain ⟨k, e1, e2⟩ := Option.bind_eq_some_iff.mp e
      obtain ⟨a, rfl, _, hc⟩ := R.of_ref rx
      obtain ⟨ws, hw, q, _⟩ := hc _ c
      have ek := key_of' ry e1
      subst ek
      have := q.look k
      rw [e2] at this
      obtain ⟨v, hv, r⟩ := this
      have g : DGet H a (kV (kK k)) (some v) := by rw [← hv]; exact .k hw
      intro value slice pins s v' u I r1 r2 hs
      cases r1
      exact tail_any (dict_typeIs I g) PySem.F.slot_dict_getitem.lookup (d_getItem (by omega) I g r2 fun w' s3 I3 rw' => ⟨v, H, I3, rw', .here R r⟩) hs
    · rename_i xs c
      split at e
      · cases ry
        obtain ⟨a, vs, rfl, _, q, w⟩ := R.seq rx (.inl c)
        exact seq q w e
      · cases e
    · rename_i xs c
      split at e
      · cases ry
        obtain ⟨a, vs, rfl, _, q, w⟩ := R.seq rx (.inr c)
        exact seq q w e
      · cases e
    · cases e
  · cases e

/-! ### slices -/
def SLX (X : Cx) (x : V) (lo hi : Option Int) (H : Hp) (Q : VK) : Prop := ∃ r, SlR X r ∧ r x lo hi H Q
theorem bound_sIx (n d : Nat) (o : Option Int) : Ev.bound n d o = HT.sIx n d o := by
  unfold Ev.bound HT.sIx
  cases o with
  | none => rfl
  | some i =>
    rfl
theorem RVs.cut {K : PySem.W.Frag} {xs : List Ev.D} {vs : List V} (w : RVs K H ι xs vs) (lo hi : Option Int) : RVs K H ι (Ev.cut xs lo hi) (cutV vs lo hi) := by
  unfold Ev.cut cutV
  rw [bound_sIx, bound_sIx, w.length]
  exact (w.drop _).take _
theorem sl_ok {x d : Ev.D} {vx : V} {lo hi : Option Int} {Q : VK} (e : Ev.slcV x lo hi h = some (d, h')) (R : Rep X.K cls H ι h) (rx : RV X.K H ι x vx) (qq : ∀ v H', PQ X.K cls H ι d h' v H' → Q v H') : SLX X vx lo hi H Q := by
  unfold Ev.slcV at e
  split at e
  · rename_i s
    cases e
    cases rx with
    | str _ hs =>
    refine ⟨_, sl_str, _, rfl, by rw [sT_len, ← LINE_eq]; exact hs, ?_⟩
    have e1 : cutS (sT s) lo hi = sT (Ev.cut s lo hi) := by
      unfold cutS Ev.cut
      rw [sT_get, sT_len, bound_sIx, bound_sIx]
      rfl
    rw [e1]
    refine qq _ _ (.here R (.str _ ?_))
    unfold Ev.cut
    rw [List.length_take, List.length_drop]
    omega
  · rename_i xs
    cases e
    cases rx with
    | @tup _ a vs t w =>
    refine ⟨_, sl_tupA, _, _, rfl, t, fun hz => ?_, fun _ p hp => qq _ _ (.tup R hp (w.cut _ _))⟩
    have e1 : Ev.cut xs lo hi = xs := by
      unfold Ev.cut
      rw [w.length] at hz
      rw [bound_sIx, bound_sIx, hz.1, hz.2]
      simp
    rw [e1] at qq
    exact qq _ _ (.here R (.tup t w))
  · split at e
    · rename_i xs c
      cases e
      obtain ⟨a, vs, rfl, _, q, w⟩ := R.seq rx (.inl c)
      exact ⟨_, sl_list, _, _, rfl, q, fun p hp => qq _ _ (.list R hp (w.cut _ _))⟩
    · rename_i xs c
      cases e
      obtain ⟨a, vs, rfl, _, q, w⟩ := R.seq rx (.inr c)
      exact ⟨_, sl_list, _, _, rfl, q, fun p hp => qq _ _ (.list R hp (w.cut _ _))⟩
    · cases e
  · cases e
theorem se_slc {a : Expr} {lo hi : Option Expr} {pos p2 : Pos} {Q : VK} (h : SE X a σ H fun x H1 => SO X lo σ H1 fun l H2 => SO X hi σ H2 fun u H3 => SLX X x l u H3 Q) : SE X (.Subscript a (.Slice lo hi none p2) pos) σ H Q := by
  intro pins s tb I
  refine Subscript_ (thk tb (h pins s tb I) fun v s1 t1 ⟨x, H1, I1, r1, q1⟩ => wpAny_Slice (thk t1 (q1 pins s1 t1 I1) fun vl s2 t2 ⟨l, H2, I2, pl, q2⟩ => thn (q2 pins s2 t2 I2) fun vu s3 ⟨u, H3, I3, pu, r, hr, q3⟩ => ?_))
  rw [evalPart_none]
  refine wpAny_pure ?_
  obtain ⟨T, id, hT, ht, hg⟩ := hr pins { s3 with heap := s3.heap.push { cls := .type "slice", data := .fields #[vl, vu, .none] } } σ H3 x v vl vu l u s3.heap.objs.size Q
    (I3.kept (t' := s3.toks) fun b ob q => Heap.get?_push_of_some _ q) r1 (Heap.IsSliceOf.new ..) pl pu q3
  show wpAny _ _ (subscriptTail a (.Slice lo hi none p2) v (.ref s3.heap.objs.size)) _ _ _
  exact tail_any (ops := [.ref s3.heap.objs.size, v]) ht hT hg (by with_unfolding_all rfl)
theorem so_none {Q : Option Int → Hp → Prop} (q : Q none H) : SO X none σ H Q := fun pins s tb I => by
  rw [evalPart_none]; exact wpAny_pure ⟨none, H, I, .none, q⟩
theorem so_some {e : Expr} {Q : Option Int → Hp → Prop} (q : SE X e σ H fun x H1 => ∃ i, x = .int i ∧ Q (some i) H1) : SO X (some e) σ H Q := fun pins s tb I => by
  rw [evalPart_some]
  exact thn (q pins s tb I) fun u s1 ⟨x, H1, I1, r1, i, ex, z⟩ => by
    subst ex
    obtain ⟨t, rfl⟩ := r1
    exact ⟨some i, H1, I1, .int i t, z⟩

/-! ### fields -/
theorem se_fld {e : Expr} {f : Str} {pos : Pos} {Q : VK} (hb : attributeBase e f X.env (eval e X.env) = eval e X.env)
    (h : SE X e σ H fun x H1 => ∃ a C dx fs v, x = .ref a ∧ H1 a = some (.ins C dx fs) ∧ Cls X.K C ∧ NoAttr X.K C f ∧ fs.lookup f = some v ∧ Q v H1) : SE X (.Attribute e f pos) σ H Q :=
  fun pins s tb I => attr_of hb (thn (h pins s tb I) fun u s1 ⟨x, H1, I1, rx, a, C, dx, fs, v, ex, ea, c, n, l, q⟩ => by
    subst ex
    obtain rfl : u = Value.ref a := rx
    exact getattr_ok I1 ea c n l fun u' s2 I2 ru => ⟨v, H1, I2, ru, q⟩)
/-- what the classes of the text are to show: cls's classes are plain, have no attribute of a field's name -/
structure ClsOk (K : PySem.W.Frag) (cls : Nat → Option Addr) (isF : Nat → Ev.Nm → Bool) : Prop where
  cl : ∀ c C, cls c = some C → Cls K C
  no : ∀ c C f, cls c = some C → isF c f = true → NoAttr K C (nS f)
  inj : ∀ c d C, cls c = some C → cls d = some C → c = d
theorem fld_ok {x d : Ev.D} {vx : V} {f : Ev.Nm} (e : Ev.fldV x f h = some d) (R : Rep X.K cls H ι h) (rx : RV X.K H ι x vx) :
    ∃ a c C dx gs v, vx = .ref a ∧ cls c = some C ∧ H a = some (.ins C dx gs) ∧ gs.lookup (nS f) = some v ∧ RV X.K H ι d v := by
  unfold Ev.fldV at e
  split at e
  · split at e
    · rename_i c fs hc
      obtain ⟨a, rfl, ha, k⟩ := R.of_ref rx
      obtain ⟨C, dx, gs, hC, hH, q⟩ := k _ hc
      have := q.look f
      rw [e] at this
      obtain ⟨v, hv, r⟩ := this
      exact ⟨a, c, C, dx, gs, v, rfl, hC, hH, hv, r⟩
    · cases e
  · cases e

/-! ### stores -/
/-- x[y] = v, by values -/
def IXP (X : Cx) (x y v : V) (σ : L2.St) (H : Hp) (Q : Hp → Prop) : Prop :=
  ∀ (pins : List (Addr × Obj)) (s : Shared) (ov iv u : Value), Inv X pins σ H s → RelV x ov → RelV y iv → RelV v u → wpAny (model X.prog X.w) X.A (setItem ov iv u) (fun _ s' => ∃ H', Inv X pins σ H' s' ∧ Q H') X.xe s
/-- the heap behind a store -/
def HQ (K : PySem.W.Frag) (cls : Nat → Option Addr) (H : Hp) (ι : List Addr) (h' : Ev.Heap) : Hp → Prop := fun H' => ∃ ι', Pre ι ι' ∧ Kp H H' ∧ Rep K cls H' ι' h'
theorem HQ.put {K : PySem.W.Frag} {i : Nat} {a : Addr} {o u : HO} {c : Ev.Cell} (R : Rep K cls H ι h) (e : ι[i]? = some a) (hu : H a = some u) (m : Mut (some u)) (q : RC K cls (upd H a o) ι a c) : HQ K cls H ι (h.put i c) (upd H a o) :=
  ⟨ι, .refl _, .write hu m, R.put e hu m q⟩
theorem ixp_ok {x y d : Ev.D} {vx vy v : V} (hu : X.A.units + 64 < cLine) (e : Ev.idxPut x y d h = some h') (R : Rep X.K cls H ι h) (rx : RV X.K H ι x vx) (ry : RV X.K H ι y vy) (rd : RV X.K H ι d v) :
    IXP X vx vy v σ H (HQ X.K cls H ι h') := by
  unfold Ev.idxPut at e
  split at e
  · rename_i i
    obtain ⟨a, rfl, ha, k⟩ := R.of_ref rx
    split at e
    · rename_i xs c
      obtain ⟨vs, hv, w⟩ := k _ c
      split at e
      · split at e
        · rename_i j hj
          cases e
          cases ry
          intro pins s ov iv u I r1 r2 r3
          refine set_list pins s σ H _ _ v ov iv u _ I r1 r2 r3 ⟨_, _, _, j, rfl, rfl, hv, by rw [w.length, ← place_ixN]; exact hj, ?_⟩
          have kp : Kp H (upd H a (.lst (vs.set j v))) := .write hv True.intro
          exact .put R ha hv True.intro ⟨_, upd_same, (w.set rd j).mono kp (.refl _)⟩
        · cases e
      · cases e
    · rename_i kvs c
      obtain ⟨ws, hw, q, un⟩ := k _ c
      split at e
      · rename_i key hk
        split at e
        · rename_i hl
          cases e
          have ek := key_of' ry hk
          subst ek
          intro pins s ov iv u I r1 r2 r3
          cases r1
          have hlen : ws.length = kvs.length := (Paired.length q).symm
          refine d_setItem (by omega) I (DPut.k hw (by rw [hlen, ← LINE_eq]; omega)) r2 r3 fun s' I' => ⟨_, I', ?_⟩
          have kp : Kp H (upd H a (.dK (putK ws (kK key) v))) := .write hw True.intro
          exact .put R ha hw True.intro ⟨_, upd_same, (q.put un key rd).mono kp (.refl _), un.put⟩
        · cases e
      · cases e
    · cases e
  · cases e
theorem sg_idx {o i : Expr} {pos : Pos} {v : V} {Q : L2.St → Hp → Prop} (hi : ∀ a b c d, i ≠ .Slice a b c d) (h : SE X o σ H fun x H1 => SE X i σ H1 fun y H2 => IXP X x y v σ H2 fun H3 => Q σ H3) : SG X (.Subscript o i pos) v σ H Q := by
  intro pins s u tb I r
  have ea : assign (.Subscript o i pos) X.env u = (do
      let ov ← holding [u] (eval o X.env)
      let iv ← holding [u, ov] (eval i X.env)
      standAt pos
      holding [u, ov, iv] (setItem ov iv u)
      release [u, ov, iv] []) := by
    cases i <;> first | rfl | exact absurd rfl (hi _ _ _ _)
  rw [ea]
  refine wpAny_bind (wpAny_holding (thk tb (h pins s tb I) fun ov s1 t1 ⟨x, H1, I1, r1, q1⟩ => ?_))
  refine wpAny_bind (wpAny_holding (thn (q1 pins s1 t1 I1) fun iv s2 ⟨y, H2, I2, r2, q2⟩ => ?_))
  refine wpAny_bind (wpAny_standAt (wpAny_bind (wpAny_holding (thn (q2 pins s2 ov iv u I2 r1 r2 r) fun _ s3 ⟨H3, I3, q3⟩ => ?_))))
  exact wpAny_release ⟨σ, H3, I3, q3⟩
theorem sg_fld {o : Expr} {f : Str} {pos : Pos} {v : V} {Q : L2.St → Hp → Prop} (h : SE X o σ H fun x H1 => ∃ a C dx fs, x = .ref a ∧ H1 a = some (.ins C dx fs) ∧ Cls X.K C ∧ NoAttr X.K C f ∧ fs.length < 1000 ∧ Q σ (upd H1 a (.ins C dx (putF f v fs)))) :
    SG X (.Attribute o f pos) v σ H Q := by
  intro pins s u tb I r
  show wpAny _ _ (do let ov ← holding [u] (eval o X.env); standAt pos.atName; holding [u, ov] (setAttr ov f u); release [u, ov] []) _ _ _
  refine wpAny_bind (wpAny_holding (thn (h pins s tb I) fun ov s1 ⟨x, H1, I1, r1, a, C, dx, fs, ex, ea, c, n, l, q⟩ => ?_))
  subst ex
  cases r1
  refine wpAny_bind (wpAny_standAt (wpAny_bind (wpAny_holding (setattr_ok I1 ea c n l r fun s2 I2 => wpAny_release ⟨σ, _, I2, q⟩))))
theorem fput_ok {x d : Ev.D} {vx v : V} {f : Ev.Nm} (e : Ev.fldPut x f d h = some h') (R : Rep X.K cls H ι h) (rx : RV X.K H ι x vx) (rd : RV X.K H ι d v) :
    ∃ a c C dx gs, vx = .ref a ∧ cls c = some C ∧ H a = some (.ins C dx gs) ∧ gs.length < 1000 ∧ HQ X.K cls H ι h' (upd H a (.ins C dx (putF (nS f) v gs))) := by
  unfold Ev.fldPut at e
  split at e
  · split at e
    · rename_i c fs hc
      split at e
      · rename_i hl
        cases e
        obtain ⟨a, rfl, ha, k⟩ := R.of_ref rx
        obtain ⟨C, dx, gs, hC, hH, q⟩ := k _ hc
        have hlen : gs.length = fs.length := (Paired.length q).symm
        have kp : Kp H (upd H a (.ins C dx (putF (nS f) v gs))) := .write hH True.intro
        exact ⟨a, c, C, dx, gs, rfl, hC, hH, by omega, .put R ha hH True.intro ⟨C, dx, _, hC, upd_same, (q.put f rd).mono kp (.refl _)⟩⟩
      · cases e
    · cases e
  · cases e
end
end EvS
set_option Elab.async false
set_option linter.all false
set_option maxRecDepth 100000
set_option maxHeartbeats 1000000
/-! EvG: what is called by a name. -/
namespace EvS
open PySem PySem.Spec PyProof.Rows L2

/-- a call of a known value, by values -/
def CV (X : Cx) (f : Value) (xs : List V) (σ : L2.St) (H : Hp) (Q : VK) : Prop :=
  ∀ (pins : List (Addr × Obj)) (s : Shared) (us : List Value), TB X s → Inv X pins σ H s → Vals xs us → wpAny (model X.prog X.w) X.A (call f us) (EP X pins σ Q) X.xe s
section
variable {X : Cx} {cls : Nat → Option Addr} {σ : L2.St} {H : Hp} {ι : List Addr} {h h' : Ev.Heap}
theorem CV.of {f : Value} {r : List V → Hp → VK → Prop} (hr : CallR X f r) {xs : List V} {Q : VK} (q : r xs H Q) : CV X f xs σ H Q := fun pins s us _ I rx => hr pins s σ H xs us Q I rx q

/-! ### repr -/
def toPy : Ev.Dt → PyData
  | .non => .none
  | .bl b => .bool b
  | .int i => .int i
  | .str x => .str (sT x)
  | .lst xs => .list (go xs)
  | .tup xs => .tuple (go xs)
where go : List Ev.Dt → List PyData
  | [] => []
  | x :: xs => toPy x :: go xs
/-- the text of data, where it is not too long -/
def showsT (d : Ev.Dt) : Option Ev.Txt := if (toPy d).showable = true ∧ (toPy d).shown.length ≤ sizeLine then some (toPy d).shown.cps.toList else none
mutual
theorem dd_reads {s : Shared} : ∀ {n : Nat} {u : Value} {d : Ev.Dt}, DD s n u d → ∃ as, Reads s.heap u (toPy d) as
  | _, _, _, .non => ⟨_, .none⟩
  | _, _, _, .bl _ => ⟨_, .bool _⟩
  | _, _, _, .int _ _ => ⟨_, .int _ _⟩
  | _, _, _, .str _ _ => ⟨_, .str _ _⟩
  | _, _, _, .lst hl q => by
    obtain ⟨as, r⟩ := dds_reads q
    obtain ⟨o, e, c, n, d⟩ := hl
    exact ⟨_, .list e c d r⟩
  | _, _, _, .tup hl q => by
    obtain ⟨as, r⟩ := dds_reads q
    obtain ⟨o, e, c, n, d⟩ := hl
    exact ⟨_, .tuple e c d r⟩
theorem dds_reads {s : Shared} : ∀ {n : Nat} {us : List Value} {ds : List Ev.Dt}, DDs s n us ds → ∃ as, ReadsAll s.heap us (toPy.go ds) as
  | _, _, _, .nil => ⟨_, .nil⟩
  | _, _, _, .cons a b => by
    obtain ⟨as, r⟩ := dd_reads a
    obtain ⟨bs, q⟩ := dds_reads b
    exact ⟨_, .cons r q⟩
end
mutual
theorem noDict : ∀ d : Ev.Dt, (toPy d).hasDict = false
  | .non => rfl
  | .bl _ => rfl
  | .int _ => rfl
  | .str _ => rfl
  | .lst xs => by unfold toPy PyData.hasDict; exact noDicts xs
  | .tup xs => by unfold toPy PyData.hasDict; exact noDicts xs
theorem noDicts : ∀ d : List Ev.Dt, PyData.hasDictAll (toPy.go d) = false
  | [] => rfl
  | x :: xs => by unfold toPy.go PyData.hasDictAll; rw [noDict x, noDicts xs]; rfl
end
mutual
theorem dd_depth {s : Shared} : ∀ {n : Nat} {u : Value} {d : Ev.Dt}, DD s n u d → (toPy d).depth ≤ n
  | _, _, _, .non => Nat.zero_le _
  | _, _, _, .bl _ => Nat.zero_le _
  | _, _, _, .int _ _ => Nat.zero_le _
  | _, _, _, .str _ _ => Nat.zero_le _
  | _, _, _, .lst hl q => by unfold toPy PyData.depth; exact Nat.succ_le_succ (dds_depth q)
  | _, _, _, .tup hl q => by unfold toPy PyData.depth; exact Nat.succ_le_succ (dds_depth q)
theorem dds_depth {s : Shared} : ∀ {n : Nat} {us : List Value} {ds : List Ev.Dt}, DDs s n us ds → PyData.depthAll (toPy.go ds) ≤ n
  | _, _, _, .nil => Nat.zero_le _
  | _, _, _, .cons a b => by unfold toPy.go PyData.depthAll; exact Nat.max_le.mpr ⟨dd_depth a, dds_depth b⟩
end
theorem cv_repr {x : Ev.D} {vx : V} {d : Ev.Dt} {t : Ev.Txt} (hu : X.A.units + 64 < cLine) (hg : X.A.guards = some []) (e : Ev.dat h Ev.DEEP x = some d) (es : showsT d = some t) (R : Rep X.K cls H ι h) (rx : RV X.K H ι x vx) :
    CV X (.builtin "repr") [vx] σ H (PQ X.K cls H ι (.str t) h) := by
  intro pins s us _ I rv
  obtain ⟨u, rfl, ru⟩ := rv.one
  have hd := dat_dd I R _ _ _ _ _ e rx ru
  unfold showsT at es
  split at es
  · rename_i c
    cases es
    have fin : ∀ (tk : Tok) (h2 : Heap) (k : Nat), (∀ b o, s.heap.get? b = some o → h2.get? b = some o) → EP X pins σ (PQ X.K cls H ι (.str (toPy d).shown.cps.toList) h) (.str (toPy d).shown tk) { s with heap := h2, toks := k } := fun tk h2 k kp =>
      ⟨.str (sT (toPy d).shown.cps.toList), H, I.kept kp, ⟨tk, by rw [sT_of]⟩, .here R (.str _ (by
        have := c.2
        rw [← LINE_eq] at this
        simpa [Str.length] using this))⟩
    cases hd with
    | non => exact P.repr_of_none (fin s.toks s.heap (s.toks + 1) fun _ _ e => e)
    | bl b => exact P.repr_of_bool (fin s.toks s.heap (s.toks + 1) fun _ _ e => e)
    | int i t => exact P.repr_of_int (of_decide_eq_true c.1) (fin s.toks s.heap (s.toks + 1) fun _ _ e => e)
    | str y t => exact P.repr_of_str (fin s.toks s.heap (s.toks + 1) fun _ _ e => e) c.2
    | lst hl q =>
      obtain ⟨as, r⟩ := dd_reads (.lst hl q)
      have h1 := dd_depth (.lst hl q)
      exact repr_of_reads' r c.1 (fun z => by rw [noDict] at z; cases z) hg (by omega) (fun _ _ e => e) (fun h2 u tk kp => fin u h2 tk kp) c.2
    | tup hl q =>
      obtain ⟨as, r⟩ := dd_reads (.tup hl q)
      have h1 := dd_depth (.tup hl q)
      exact repr_of_reads' r c.1 (fun z => by rw [noDict] at z; cases z) hg (by omega) (fun _ _ e => e) (fun h2 u tk kp => fin u h2 tk kp) c.2
  · cases es
end
end EvS
set_option Elab.async false
set_option linter.all false
set_option maxRecDepth 100000
set_option maxHeartbeats 1000000
/-! EvH: what is called by a name, all of it. -/
namespace EvS
open PySem PySem.Spec PyProof.Rows L2

section
variable {X : Cx} {cls : Nat → Option Addr} {σ : L2.St} {H : Hp} {ι : List Addr} {h h' : Ev.Heap}
theorem RVs.one {K : PySem.W.Frag} {x : Ev.D} {vs : List V} (r : RVs K H ι [x] vs) : ∃ v, vs = [v] ∧ RV K H ι x v := by
  cases r with
  | cons a b => cases b; exact ⟨_, rfl, a⟩
theorem RVs.two {K : PySem.W.Frag} {x y : Ev.D} {vs : List V} (r : RVs K H ι [x, y] vs) : ∃ v w, vs = [v, w] ∧ RV K H ι x v ∧ RV K H ι y w := by
  cases r with
  | cons a b =>
    obtain ⟨w, rfl, q⟩ := b.one
    exact ⟨_, _, rfl, a, q⟩
theorem RV.intv {K : PySem.W.Frag} {i : Int} {v : V} (r : RV K H ι (.int i) v) : v = .int i := by cases r; rfl
theorem RV.blv {K : PySem.W.Frag} {b : Bool} {v : V} (r : RV K H ι (.bl b) v) : v = .bl b := by cases r; rfl
theorem RV.nonv {K : PySem.W.Frag} {v : V} (r : RV K H ι .non v) : v = .non := by cases r; rfl
theorem RV.strv {K : PySem.W.Frag} {x : Ev.Txt} {v : V} (r : RV K H ι (.str x) v) : v = .str (sT x) ∧ x.length ≤ Ev.LINE := by cases r with | str _ hs => exact ⟨rfl, hs⟩
theorem ints_of {K : PySem.W.Frag} : ∀ {xs : List Ev.D} {vs : List V} {ns : List Int}, RVs K H ι xs vs → Ev.intsL xs = some ns → vs = ns.map V.int
  | _, _, _, .nil, e => by cases e; rfl
  | _, _, ns, .cons (x := x) (xs := xs) a b, e => by
    cases x with
    | int i =>
      have e : (Ev.intsL xs).map (i :: ·) = some ns := e
      cases e2 : Ev.intsL xs with
      | none => rw [e2] at e; cases e
      | some ms =>
        rw [e2] at e
        cases e
        rw [a.intv, ints_of b e2]
        rfl
    | _ => cases e
theorem bools_of {K : PySem.W.Frag} : ∀ {xs : List Ev.D} {vs : List V} {ns : List Bool}, RVs K H ι xs vs → Ev.bools xs = some ns → vs = ns.map V.bl
  | _, _, _, .nil, e => by cases e; rfl
  | _, _, ns, .cons (x := x) (xs := xs) a b, e => by
    cases x with
    | bl i =>
      have e : (Ev.bools xs).map (i :: ·) = some ns := e
      cases e2 : Ev.bools xs with
      | none => rw [e2] at e; cases e
      | some ms =>
        rw [e2] at e
        cases e
        rw [a.blv, bools_of b e2]
        rfl
    | _ => cases e
theorem texts_of {K : PySem.W.Frag} : ∀ {xs : List Ev.D} {vs : List V} {ns : List Ev.Txt}, RVs K H ι xs vs → Ev.texts xs = some ns → vs = (ns.map sT).map V.str
  | _, _, _, .nil, e => by cases e; rfl
  | _, _, ns, .cons (x := x) (xs := xs) a b, e => by
    cases x with
    | str i =>
      have e : (Ev.texts xs).map (i :: ·) = some ns := e
      cases e2 : Ev.texts xs with
      | none => rw [e2] at e; cases e
      | some ms =>
        rw [e2] at e
        cases e
        rw [a.strv.1, texts_of b e2]
        rfl
    | _ => cases e
theorem maxL_is : ∀ (r : List Int) (m : Int), (Ev.maxL m r ∈ m :: r) ∧ (∀ y ∈ m :: r, y ≤ Ev.maxL m r)
  | [], m => by simp [Ev.maxL]
  | x :: r, m => by
    unfold Ev.maxL
    have ⟨a, b⟩ := maxL_is r (if m < x then x else m)
    refine ⟨?_, fun y hy => ?_⟩
    · rcases List.mem_cons.mp a with e | e
      · rw [e]; split <;> simp
      · simp [e]
    · have b0 := b _ (List.mem_cons_self ..)
      rcases List.mem_cons.mp hy with rfl | hy
      · refine Int.le_trans ?_ b0; split <;> omega
      · rcases List.mem_cons.mp hy with rfl | hy
        · refine Int.le_trans ?_ b0; split <;> omega
        · exact b y (List.mem_cons_of_mem _ hy)
theorem minL_is : ∀ (r : List Int) (m : Int), (Ev.minL m r ∈ m :: r) ∧ (∀ y ∈ m :: r, Ev.minL m r ≤ y)
  | [], m => by simp [Ev.minL]
  | x :: r, m => by
    unfold Ev.minL
    have ⟨a, b⟩ := minL_is r (if x < m then x else m)
    refine ⟨?_, fun y hy => ?_⟩
    · rcases List.mem_cons.mp a with e | e
      · rw [e]; split <;> simp
      · simp [e]
    · have b0 := b _ (List.mem_cons_self ..)
      rcases List.mem_cons.mp hy with rfl | hy
      · refine Int.le_trans b0 ?_; split <;> omega
      · rcases List.mem_cons.mp hy with rfl | hy
        · refine Int.le_trans b0 ?_; split <;> omega
        · exact b y (List.mem_cons_of_mem _ hy)
theorem log2_small {n : Nat} (h : n < 2 ^ 1000) : n.log2 < 1920 := by
  rcases Nat.eq_zero_or_pos n with rfl | hp
  · decide
  · have := (Nat.log2_lt (by omega)).mpr h
    omega
theorem dec_nat (n : Nat) : PySem.Str.ofString (toString ((n : Nat) : Int)) = sT (Ev.decN n) := by
  apply Str.ext'
  apply Array.toList_inj.mp
  rw [PySem.W.KIN.signs_num]
  simp [sT, Ev.decN]
theorem dec_int (i : Int) : PySem.Str.ofString (toString i) = sT (Ev.decT i) := by
  cases i with
  | ofNat n => exact dec_nat n
  | negSucc n =>
    apply Str.ext'
    apply Array.toList_inj.mp
    rw [PyProof.Rows.signs_ofString]
    show ("-" ++ Nat.repr (n + 1)).toList.map Char.toNat = _
    rw [String.toList_append, List.map_append, Nat.toList_repr]
    simp [sT, Ev.decT, Ev.decN]
theorem dec_len {i : Int} (h : i.natAbs < 2 ^ 1000) : (Ev.decT i).length ≤ Ev.LINE := by
  have h1 : (PySem.Str.ofString (toString i)).length ≤ sizeLine := int_text_fits (log2_small h)
  rw [dec_int, sT_len] at h1
  rw [LINE_eq]; exact h1
theorem readN_fold : ∀ (s : Ev.Txt) (n m : Nat), Ev.readN n s = some m → (∀ c ∈ s, 48 ≤ c ∧ c ≤ 57) ∧ m = s.foldl (fun a c => a * 10 + (c - 48)) n
  | [], n, m, e => by cases e; simp
  | c :: s, n, m, e => by
    unfold Ev.readN at e
    split at e
    · rename_i hc
      have ⟨a, b⟩ := readN_fold s _ m e
      refine ⟨fun x hx => ?_, ?_⟩
      · rcases List.mem_cons.mp hx with rfl | hx
        · exact hc
        · exact a x hx
      · rw [b, List.foldl_cons, Nat.mul_comm]
    · cases e
theorem signs_are {K : PySem.W.Frag} : ∀ (s : Ev.Txt), RVs K H ι (s.map fun c => .str [c]) (s.map fun c => V.str ⟨#[c]⟩)
  | [] => .nil
  | c :: s => .cons (one_ok c) (signs_are s)
theorem sign_vals : ∀ (x : List Nat) (us : List Value), us.length = x.length → (∀ (j : Nat) (v : Value), us[j]? = some v → ∃ (c : Nat) (u : Tok), x[j]? = some c ∧ v = Value.str ⟨#[c]⟩ u) → Vals (x.map fun c => V.str ⟨#[c]⟩) us
  | [], [], _, _ => .nil
  | [], _ :: _, e, _ => by simp at e
  | _ :: _, [], e, _ => by simp at e
  | c :: x, v :: us, e, hh => by
    obtain ⟨d, u, h1, h2⟩ := hh 0 v rfl
    simp at h1
    subst h1 h2
    exact .cons ⟨u, rfl⟩ (sign_vals x us (by simpa using e) fun j v hj => hh (j + 1) v (by simpa using hj))
theorem list_str_ok (hc : X.calm = true) {x : Ev.Txt} (hx : x.length ≤ Ev.LINE) {Q : VK} (q : ∀ p, H p = none → Q (.ref p) (upd H p (.lst (x.map fun c => V.str ⟨#[c]⟩)))) : CV X (.type "list") [.str (sT x)] σ H Q := by
  intro pins s us _ I rx
  obtain ⟨u, rfl, t, rfl⟩ := vals1 rx
  have hz : (sT x).cps.size ≤ sizeLine := by rw [← LINE_eq]; simpa [sT] using hx
  refine PySem.call_list_str (I.ok.hd hc) (sT x) t (fun h' tk acc' c' kp e hi => ?_) hz
  have hn : H s.heap.objs.size = none := I.hok.fresh (Nat.le_refl _)
  have hsz : acc'.size = x.length := by rw [hi.1]; simp [sT]
  have hv : Vals (x.map fun c => V.str ⟨#[c]⟩) acc'.toList := by
    refine sign_vals x _ (by simp [hsz]) fun j v hv => ?_
    obtain ⟨c, u, h1, h2⟩ := hi.2 j v (by simpa using hv)
    exact ⟨c, u, by simpa [sT] using h1, h2⟩
  exact ⟨.ref s.heap.objs.size, _, I.laid (t' := tk) kp (Nat.le_refl _) (show ObjOk X.prog X.w _ h' _ (.lst _) from ⟨by rw [List.length_map, ← LINE_eq]; exact hx, acc'.toList, c', hv, by simpa using e⟩), rfl, q _ hn⟩

/-- the value that a name is -/
def fnV : Ev.Fn → Option Value
  | .len => some (.builtin "len") | .repr => some (.builtin "repr") | .tuple => some (.type "tuple") | .int => some (.type "int") | .list => some (.type "list")
  | .min => some (.builtin "min") | .max => some (.builtin "max") | .abs => some (.builtin "abs") | .str => some (.type "str") | .sum => some (.builtin "sum")
  | .all => some (.builtin "all") | .any => some (.builtin "any") | .ord => some (.builtin "ord") | _ => none
theorem len_ok {x : Ev.D} {vx : V} {n : Nat} (e : Ev.lenV x h = some n) (R : Rep X.K cls H ι h) (rx : RV X.K H ι x vx) : CV X (.builtin "len") [vx] σ H (PQ X.K cls H ι (.int n) h) := by
  cases x with
  | str s =>
    cases e
    obtain ⟨rfl, hs⟩ := rx.strv
    exact .of call_len ⟨_, _, rfl, ⟨by rw [sT_len, ← LINE_eq]; exact hs, rfl⟩, by rw [sT_len]; exact .here R (.int _)⟩
  | tup xs =>
    cases e
    cases rx with
    | tup t w => exact .of call_len ⟨_, _, rfl, .inr ⟨_, t, rfl⟩, by rw [w.length]; exact .here R (.int _)⟩
  | ref i =>
    have e : (match h.get i with
      | some (.lst xs) => some xs.length
      | some (.fro xs) => some xs.length
      | some (.dct kvs) => some kvs.length
      | _ => none) = some n := e
    cases hg : h.get i with
    | none => rw [hg] at e; cases e
    | some c =>
      rw [hg] at e
      cases c with
      | lst xs =>
        cases e
        obtain ⟨a, vs, rfl, _, q, w⟩ := R.seq rx (.inl hg)
        exact .of call_len ⟨_, _, rfl, .inl ⟨_, q, rfl⟩, by rw [w.length]; exact .here R (.int _)⟩
      | fro xs =>
        cases e
        obtain ⟨a, vs, rfl, _, q, w⟩ := R.seq rx (.inr hg)
        exact .of call_len ⟨_, _, rfl, .inl ⟨_, q, rfl⟩, by rw [w.length]; exact .here R (.int _)⟩
      | dct kvs =>
        cases e
        obtain ⟨a, rfl, _, q⟩ := R.of_ref rx
        obtain ⟨ws, hw, w, _⟩ := q _ hg
        intro pins s us _ I r
        obtain ⟨u, rfl, r1⟩ := vals1 r
        cases r1
        refine d_len I (.inl hw) fun t s' I' => ⟨.int _, H, I', ⟨t, rfl⟩, ?_⟩
        rw [← w.length]
        exact .here R (.int _)
      | _ => cases e
  | _ => cases e
theorem ref_items {a : Nat} {v : V} {ys : List Ev.D} (R : Rep X.K cls H ι h) (r : RV X.K H ι (.ref a) v) (e : Ev.items h (.ref a) = some ys) :
    ∃ p ws, v = .ref p ∧ SqL X.K H p ws ∧ RVs X.K H ι ys ws := by
  unfold Ev.items at e
  dsimp only at e
  split at e
  · rename_i c; cases e
    obtain ⟨p, ws, rfl, _, q, w⟩ := R.seq r (.inl c)
    exact ⟨p, ws, rfl, q, w⟩
  · rename_i c; cases e
    obtain ⟨p, ws, rfl, _, q, w⟩ := R.seq r (.inr c)
    exact ⟨p, ws, rfl, q, w⟩
  · cases e
theorem ref_ints {a : Nat} {v : V} {ns : List Int} (R : Rep X.K cls H ι h) (r : RV X.K H ι (.ref a) v) (e : (Ev.items h (.ref a)).bind Ev.intsL = some ns) :
    ∃ p, v = .ref p ∧ SqL X.K H p (ns.map V.int) := by
  obtain ⟨ys, e3, e4⟩ := Option.bind_eq_some_iff.mp e
  obtain ⟨p, ws, rfl, q, w⟩ := ref_items R r e3
  have e5 := ints_of w e4
  subst e5
  exact ⟨p, rfl, q⟩
theorem ref_bools {a : Nat} {v : V} {ns : List Bool} (R : Rep X.K cls H ι h) (r : RV X.K H ι (.ref a) v) (e : (Ev.items h (.ref a)).bind Ev.bools = some ns) :
    ∃ p, v = .ref p ∧ SqL X.K H p (ns.map V.bl) := by
  obtain ⟨ys, e3, e4⟩ := Option.bind_eq_some_iff.mp e
  obtain ⟨p, ws, rfl, q, w⟩ := ref_items R r e3
  have e5 := bools_of w e4
  subst e5
  exact ⟨p, rfl, q⟩
theorem bltin_ok {f : Ev.Fn} {fv : Value} {xs : List Ev.D} {d : Ev.D} {vs : List V} (hc : X.calm = true) (hu : X.A.units + 64 < cLine) (hg : X.A.guards = some []) (hf : fnV f = some fv)
    (e : Ev.bltin showsT f xs h = some (d, h')) (R : Rep X.K cls H ι h) (rx : RVs X.K H ι xs vs) : CV X fv vs σ H (PQ X.K cls H ι d h') := by
  unfold Ev.bltin at e
  split at e <;> (try cases hf)
  · obtain ⟨v, rfl, r⟩ := rx.one
    rename_i x
    cases e2 : Ev.lenV x h with
    | none => rw [e2] at e; cases e
    | some n => rw [e2] at e; cases e; exact len_ok e2 R r
  · obtain ⟨v, rfl, r⟩ := rx.one
    rename_i x
    cases e2 : Ev.dat h Ev.DEEP x with
    | none => rw [e2] at e; cases e
    | some dt =>
      rw [e2] at e
      dsimp only at e
      cases e3 : showsT dt with
      | none => rw [e3] at e; cases e
      | some t => rw [e3] at e; cases e; exact cv_repr hu hg e2 e3 R r
  · obtain ⟨v, rfl, r⟩ := rx.one
    rw [r.intv]
    split at e
    · rename_i c
      cases e
      exact .of call_str_int ⟨_, rfl, log2_small c, by rw [dec_int]; exact .here R (.str _ (dec_len c))⟩
    · cases e
  · obtain ⟨v, rfl, r⟩ := rx.one
    obtain ⟨rfl, hs⟩ := r.strv
    cases e
    exact .of SkE.call_str_str ⟨_, rfl, .here R (.str _ hs)⟩
  · obtain ⟨v, rfl, r⟩ := rx.one
    rename_i x
    cases e2 : Ev.items h x with
    | none => rw [e2] at e; cases e
    | some ys =>
      rw [e2] at e
      cases e
      obtain ⟨a, ws, rfl, q, w⟩ := items_of R r e2
      rcases q with q | q
      · exact .of call_tuple_of ⟨_, _, rfl, .inl ⟨q, fun l hl => .tup R hl w⟩⟩
      · exact .of call_tuple_of ⟨_, _, rfl, .inr ⟨q, .here R (.tup q w)⟩⟩
  · obtain ⟨v, rfl, r⟩ := rx.one
    rename_i x
    cases x with
    | str s =>
      cases e
      obtain ⟨rfl, hs⟩ := r.strv
      exact list_str_ok hc hs fun p hp => .list R hp (signs_are s)
    | tup ys =>
      cases e
      obtain ⟨a, ws, rfl, q, w⟩ := items_of R r (show Ev.items h (.tup ys) = some ys from rfl)
      exact .of call_list_of ⟨_, _, rfl, q, fun l hl => .list R hl w⟩
    | ref i =>
      have e : (Ev.items h (.ref i)).map (fun xs => (Ev.D.ref h.size, h.new (.lst xs))) = some (d, h') := e
      cases e2 : Ev.items h (.ref i) with
      | none => rw [e2] at e; cases e
      | some ys =>
        rw [e2] at e
        cases e
        obtain ⟨a, ws, rfl, q, w⟩ := items_of R r e2
        exact .of call_list_of ⟨_, _, rfl, q, fun l hl => .list R hl w⟩
    | _ => cases e
  · obtain ⟨v, rfl, r⟩ := rx.one
    rw [r.intv]
    cases e
    exact .of call_int1 (.inl ⟨_, rfl, .here R (.int _)⟩)
  · obtain ⟨v, rfl, r⟩ := rx.one
    rw [r.blv]
    cases e
    exact .of call_int1 (.inr ⟨_, rfl, .here R (.int _)⟩)
  · obtain ⟨v, rfl, r⟩ := rx.one
    obtain ⟨rfl, hs⟩ := r.strv
    rename_i s
    split at e
    · cases e
    · rename_i c
      cases e2 : Ev.readN 0 s with
      | none => rw [e2] at e; cases e
      | some n =>
        rw [e2] at e
        cases e
        have ⟨q1, q2⟩ := readN_fold s 0 n e2
        rw [Bool.or_eq_true, not_or] at c
        have hl : s.length ≤ 640 := by have := c.2; simpa using this
        have hne : s ≠ [] := by intro z; subst z; exact c.1 rfl
        have hz : PySem.intText? (sT s) = some (n : Int) := by
          have := intText_digits (x := sT s) (by rw [sT_get]; exact q1) (by rw [sT_get]; exact hne) (by rw [sT_len]; omega)
          rw [this, sT_get, q2]
          rfl
        exact .of call_int_str ⟨_, _, rfl, hz, by rw [sT_len]; exact hl, .here R (.int _)⟩
  · obtain ⟨v, rfl, r⟩ := rx.one
    rw [r.intv]
    cases e
    exact .of call_abs ⟨_, rfl, .here R (.int _)⟩
  · obtain ⟨v, rfl, r⟩ := rx.one
    obtain ⟨rfl, hs⟩ := r.strv
    cases e
    exact .of call_ord ⟨_, rfl, by rw [sT_len]; rfl, .here R (.int _)⟩
  · obtain ⟨v, w, rfl, r, q⟩ := rx.two
    rw [r.intv, q.intv]
    cases e
    exact .of (call_min2 hc) ⟨_, _, rfl, .here R (.int _)⟩
  · obtain ⟨v, w, rfl, r, q⟩ := rx.two
    rw [r.intv, q.intv]
    cases e
    exact .of (call_max2 hc) ⟨_, _, rfl, .here R (.int _)⟩
  · obtain ⟨v, rfl, r⟩ := rx.one
    split at e
    · rename_i x ns e2
      cases e
      obtain ⟨p, rfl, q⟩ := ref_ints R r e2
      have ⟨m1, m2⟩ := minL_is ns x
      exact .of (cr_min hc) ⟨p, x :: ns, rfl, q, Nat.succ_pos _, fun m hm hle => by
        rw [show m = Ev.minL x ns from Int.le_antisymm (hle _ m1) (m2 _ hm)]; exact .here R (.int _)⟩
    · cases e
  · obtain ⟨v, rfl, r⟩ := rx.one
    split at e
    · rename_i x ns e2
      cases e
      obtain ⟨p, rfl, q⟩ := ref_ints R r e2
      have ⟨m1, m2⟩ := maxL_is ns x
      exact .of (cr_max hc) ⟨p, x :: ns, rfl, q, Nat.succ_pos _, fun m hm hle => by
        rw [show m = Ev.maxL x ns from Int.le_antisymm (m2 _ hm) (hle _ m1)]; exact .here R (.int _)⟩
    · cases e
  · obtain ⟨v, rfl, r⟩ := rx.one
    obtain ⟨ns, e2, e⟩ := Option.map_eq_some_iff.mp e
    cases e
    obtain ⟨p, rfl, q⟩ := ref_ints R r e2
    exact .of (cr_sum hc) ⟨p, ns, rfl, q, .here R (.int _)⟩
  · obtain ⟨v, rfl, r⟩ := rx.one
    obtain ⟨ns, e2, e⟩ := Option.map_eq_some_iff.mp e
    cases e
    obtain ⟨p, rfl, q⟩ := ref_bools R r e2
    exact .of (cr_all hc) ⟨p, ns, rfl, q, .here R (.bl _)⟩
  · obtain ⟨v, rfl, r⟩ := rx.one
    obtain ⟨ns, e2, e⟩ := Option.map_eq_some_iff.mp e
    cases e
    obtain ⟨p, rfl, q⟩ := ref_bools R r e2
    exact .of (cr_any hc) ⟨p, ns, rfl, q, .here R (.bl _)⟩
  all_goals cases e
end
end EvS
set_option Elab.async false
set_option linter.all false
set_option maxRecDepth 100000
set_option maxHeartbeats 1000000
/-! EvT: what methods of texts give, on lists of signs. -/
namespace EvS
open PySem PySem.Spec PyProof.Rows L2 PySem.StrLaws PySem.Builtin.Str

theorem sT_eq {x : Str} {s : Ev.Txt} (h : x.cps.toList = s) : x = sT s := by rw [← h, sT_of]
theorem starts_ok (s t : Ev.Txt) : Txt.startswith (sT s) (sT t) = t.isPrefixOf s := by
  unfold Txt.startswith
  rw [PySem.StrLaws.subAt_eq, sT_get, sT_get, sT_len, sT_len, Bool.eq_iff_iff, Bool.and_eq_true, List.isPrefixOf_iff_prefix, beq_iff_eq, decide_eq_true_iff, List.drop_zero, List.prefix_iff_eq_take]
  constructor
  · rintro ⟨_, a⟩; exact a.symm
  · intro a
    refine ⟨?_, a.symm⟩
    have := congrArg List.length a
    rw [List.length_take] at this
    omega
theorem ends_ok (s t : Ev.Txt) : Txt.endswith (sT s) (sT t) = t.isSuffixOf s := by
  unfold Txt.endswith
  rw [PySem.StrLaws.subAt_eq, sT_get, sT_get, sT_len, sT_len, Bool.eq_iff_iff, Bool.and_eq_true, List.isSuffixOf_iff_suffix, beq_iff_eq, decide_eq_true_iff, List.suffix_iff_eq_drop]
  constructor
  · rintro ⟨a, b⟩
    rw [List.take_of_length_le (by rw [List.length_drop]; omega)] at b
    exact b.symm
  · intro a
    have := congrArg List.length a
    rw [List.length_drop] at this
    refine ⟨by omega, ?_⟩
    rw [List.take_of_length_le (by rw [List.length_drop]; omega)]
    exact a.symm
theorem at_one (s : Ev.Txt) (c i : Nat) : At (sT s) (sT [c]) (sT s).length i ↔ s[i]? = some c := by
  have := PySem.StrLaws.subAt_one (sT s) c i
  rw [sT_get] at this
  rw [sT_one]
  exact this
theorem find_ok (s : Ev.Txt) (c : Nat) : Txt.find (sT s) (sT [c]) = Ev.findC c s := by
  unfold Ev.findC
  rcases PyProof.Rows.find_whole (sT s) (sT [c]) with ⟨e, hn⟩ | ⟨i, e, hi, hn⟩
  · rw [e]
    cases hf : s.findIdx? (· == c) with
    | none => rfl
    | some j =>
      have := List.findIdx?_eq_some_iff_getElem.mp hf
      obtain ⟨hj, h1, _⟩ := this
      exact absurd ((at_one s c j).mpr (by rw [List.getElem?_eq_getElem hj]; simpa using h1)) (hn j)
  · rw [e]
    have h1 := (at_one s c i).mp hi
    have hl : i < s.length := (List.getElem?_eq_some_iff.mp h1).1
    have : s.findIdx? (· == c) = some i := by
      refine List.findIdx?_eq_some_iff_getElem.mpr ⟨hl, ?_, fun j hj => ?_⟩
      · have := (List.getElem?_eq_some_iff.mp h1).2
        simpa using this
      · have := hn j hj
        rw [at_one] at this
        intro z
        apply this
        rw [List.getElem?_eq_getElem (by omega)]
        simpa using z
    rw [this]
theorem rfind_ok (s : Ev.Txt) (c : Nat) : Txt.rfind (sT s) (sT [c]) = Ev.rfindC c s := by
  unfold Ev.rfindC Txt.rfind
  rcases PySem.StrLaws.last_spec (sT s) (sT [c]) with ⟨e, hn⟩ | ⟨i, e, hi, hn⟩
  · rw [e]
    cases hf : s.reverse.findIdx? (· == c) with
    | none => rfl
    | some j =>
      obtain ⟨hj, h1, _⟩ := List.findIdx?_eq_some_iff_getElem.mp hf
      rw [List.getElem_reverse] at h1
      refine absurd ((at_one s c (s.length - 1 - j)).mpr ?_) (hn _)
      rw [List.length_reverse] at hj
      rw [List.getElem?_eq_getElem (by omega)]
      simpa using h1
  · rw [e]
    have h1 := (at_one s c i).mp hi
    have hl : i < s.length := (List.getElem?_eq_some_iff.mp h1).1
    have : s.reverse.findIdx? (· == c) = some (s.length - 1 - i) := by
      refine List.findIdx?_eq_some_iff_getElem.mpr ⟨by rw [List.length_reverse]; omega, ?_, fun j hj => ?_⟩
      · rw [List.getElem_reverse]
        have := (List.getElem?_eq_some_iff.mp h1).2
        have e2 : s.length - 1 - (s.length - 1 - i) = i := by omega
        simp only [e2]
        simpa using this
      · have := hn (s.length - 1 - j) (by omega)
        rw [at_one] at this
        intro z
        apply this
        rw [List.getElem_reverse] at z
        rw [List.getElem?_eq_getElem (by omega)]
        simpa using z
    rw [this]
    show ((i : Nat) : Int) = (s.length : Int) - 1 - ((s.length - 1 - i : Nat) : Int)
    omega
theorem index_ok (s : Ev.Txt) (c : Nat) (h : s.contains c = true) : ∃ (i : Nat) (rest : List Nat), occurrences (sT s) (sT [c]) 0 (sT s).length 1 = i :: rest ∧ (i : Int) = Ev.findC c s := by
  have h1 := find_ok s c
  have h2 := PySem.StrLaws.found_one (sT s) c
  rw [sT_get] at h2
  rw [← sT_one] at h2
  unfold Txt.find at h1
  cases ho : occurrences (sT s) (sT [c]) 0 (sT s).length 1 with
  | nil =>
    rw [ho] at h2
    have h3 : decide (c ∈ s) = false := h2.symm
    have h4 : c ∈ s := by simpa using h
    rw [decide_eq_true h4] at h3
    cases h3
  | cons i rest =>
    rw [ho] at h1
    exact ⟨i, rest, rfl, h1⟩
theorem stripL_tw (cs : Ev.Txt) : ∀ s : Ev.Txt, Ev.stripL cs s = s.drop (s.takeWhile cs.contains).length
  | [] => rfl
  | c :: s => by
    unfold Ev.stripL
    rw [List.takeWhile_cons]
    cases h : cs.contains c with
    | true => simp only [if_true, List.length_cons, List.drop_succ_cons]; exact stripL_tw cs s
    | false => simp
theorem drop_rev (s : Ev.Txt) (n : Nat) : (s.reverse.drop n).reverse = s.take (s.length - n) := by
  rw [List.drop_reverse, List.reverse_reverse]
theorem arr_has (cs : Ev.Txt) : (fun c => (sT cs).cps.contains c) = cs.contains := by
  funext c
  simp [sT]
theorem rstrip_ok (s cs : Ev.Txt) : Txt.rstripChars (sT s) (sT cs) = sT (Ev.stripR cs s) := by
  unfold Txt.rstripChars
  rw [PyProof.Rows.stripBy_eq]
  apply sT_eq
  rw [PySem.StrLaws.strSub_toList, sT_get]
  unfold Ev.stripR
  rw [stripL_tw, drop_rev]
  simp only [stripLo, stripHi, Bool.false_eq_true, if_false, if_true, arr_has, sT_get, sT_len, List.drop_zero, Nat.sub_zero]
theorem strip_ok (s cs : Ev.Txt) : Txt.stripChars (sT s) (sT cs) = sT (Ev.stripR cs (Ev.stripL cs s)) := by
  unfold Txt.stripChars
  rw [PyProof.Rows.stripBy_eq]
  apply sT_eq
  rw [PySem.StrLaws.strSub_toList, sT_get]
  unfold Ev.stripR
  rw [stripL_tw cs (Ev.stripL cs s).reverse, drop_rev, stripL_tw cs s]
  simp only [stripLo, stripHi, if_true, arr_has, sT_get, sT_len]
  congr 1
  rw [List.length_drop]
  omega
theorem splitC_ne (c : Nat) : ∀ s : Ev.Txt, Ev.splitC c s ≠ []
  | [] => by simp [Ev.splitC]
  | x :: s => by
    unfold Ev.splitC
    split
    · simp
    · split <;> simp
theorem split_go (c : Nat) : ∀ (s acc : Ev.Txt), TL.spl [c] 0 acc s = match Ev.splitC c s with | [] => [] | w :: r => (acc ++ w) :: r
  | [], acc => by simp [TL.spl, Ev.splitC]
  | x :: s, acc => by
    unfold Ev.splitC TL.spl
    have e : TL.pre [c] (x :: s) = decide (x = c) := by
      rw [Bool.eq_iff_iff]; simp [TL.pre]
    rw [e]
    by_cases h : x = c
    · simp only [h, decide_true, if_true]
      rw [List.append_nil, show ([c] : List Nat).length - 1 = 0 from rfl, split_go c s []]
      cases hs : Ev.splitC c s with
      | nil => rfl
      | cons w r => simp
    · simp only [h, decide_false, if_false, Bool.false_eq_true]
      rw [split_go c s (acc ++ [x])]
      cases hs : Ev.splitC c s with
      | nil => exact absurd hs (splitC_ne c s)
      | cons w r => simp
theorem split_ok (s : Ev.Txt) {c : Nat} (hc : c < 256) : Txt.split (sT s) (sT [c]) = (Ev.splitC c s).map sT := by
  have h := SX.split_S (a := s) (b := [c]) (by simp) (by simpa using hc)
  rw [split_go c s []] at h
  have e : (match Ev.splitC c s with | [] => [] | w :: r => ([] ++ w) :: r) = Ev.splitC c s := by
    cases hs : Ev.splitC c s with
    | nil => rfl
    | cons w r => rfl
  rw [e] at h
  exact h
theorem split_len (c : Nat) : ∀ (s : Ev.Txt), ∀ w ∈ Ev.splitC c s, w.length ≤ s.length
  | [], w, h => by simp [Ev.splitC] at h; subst h; simp
  | x :: s, w, h => by
    unfold Ev.splitC at h
    split at h
    · rcases List.mem_cons.mp h with rfl | h
      · simp
      · have := split_len c s w h
        rw [List.length_cons]; omega
    · split at h
      · rename_i hs; exact absurd hs (splitC_ne c s)
      · rename_i w' r hs
        rcases List.mem_cons.mp h with rfl | h
        · have := split_len c s w' (by rw [hs]; simp)
          rw [List.length_cons, List.length_cons]; omega
        · have := split_len c s w (by rw [hs]; exact List.mem_cons_of_mem _ h)
          rw [List.length_cons]; omega
theorem join_go (a : Ev.Txt) : ∀ ts : List Ev.Txt, TL.joinL a ts = Ev.joinT a ts
  | [] => rfl
  | [x] => rfl
  | x :: y :: r => by
    unfold TL.joinL Ev.joinT
    rw [join_go a (y :: r), List.append_assoc]
theorem join_ok (a : Ev.Txt) (ts : List Ev.Txt) : Txt.join (sT a) (ts.map sT) = sT (Ev.joinT a ts) := by
  rw [← join_go]; exact SX.join_S a ts
theorem join_len (a : Ev.Txt) : ∀ ts : List Ev.Txt, (Ev.joinT a ts).length ≤ (ts.map List.length).sum + ts.length * a.length
  | [] => by simp [Ev.joinT]
  | [x] => by simp [Ev.joinT]
  | x :: y :: r => by
    have := join_len a (y :: r)
    unfold Ev.joinT
    simp only [List.length_append, List.map_cons, List.sum_cons, List.length_cons, Nat.succ_mul] at this ⊢
    omega
theorem repl_go (c : Nat) (t : Ev.Txt) : ∀ s : Ev.Txt, PySem.StrLaws.replL [c] t s = Ev.replC c t s
  | [] => replL_nil
  | x :: s => by
    unfold Ev.replC
    by_cases h : x = c
    · rw [if_pos h, replL_hit (by simp) (by simp [h]), ← repl_go c t s]
      simp
    · rw [if_neg h, replL_miss (by simp [h]), repl_go c t s]
theorem repl_ok (s t : Ev.Txt) (c : Nat) : Txt.replace (sT s) (sT [c]) (sT t) = sT (Ev.replC c t s) := by
  apply sT_eq
  rw [PySem.StrLaws.replace_list (by rw [sT_len]; exact Nat.le_refl 1), sT_get, sT_get, sT_get, repl_go]
theorem repl_len (c : Nat) (t : Ev.Txt) : ∀ s : Ev.Txt, (Ev.replC c t s).length ≤ s.length + (s.length + 1) * t.length
  | [] => by simp [Ev.replC]
  | x :: s => by
    have := repl_len c t s
    unfold Ev.replC
    split
    · rw [List.length_append, List.length_cons, Nat.succ_mul]; omega
    · rw [List.length_cons, List.length_cons, Nat.succ_mul (s.length + 1)]; omega
theorem stripL_len (cs : Ev.Txt) (s : Ev.Txt) : (Ev.stripL cs s).length ≤ s.length := by
  rw [stripL_tw, List.length_drop]; omega
theorem stripR_len (cs : Ev.Txt) (s : Ev.Txt) : (Ev.stripR cs s).length ≤ s.length := by
  unfold Ev.stripR
  rw [List.length_reverse]
  have := stripL_len cs s.reverse
  rw [List.length_reverse] at this
  exact this
end EvS
set_option Elab.async false
set_option linter.all false
set_option maxRecDepth 100000
set_option maxHeartbeats 1000000
/-! EvI: methods of built-in things, by values. -/
namespace EvS
open PySem PySem.Spec PyProof.Rows L2

theorem extend_tup (l : Addr) (items : Array Value) (n : Nat) (b : Addr) (items2 : Array Value) (hs0 : ¬(!items.isEmpty && Builtin.List.listTooLong (items.size + items2.size)) = true) (hs1 : items.size ≤ sizeLine) (hs2 : items.size + items2.size ≤ sizeLine + 1) :
    Meets (Builtin.«list.extend» ⟨[.ref l, .ref b], []⟩) (fun _ R s => s.heap.get? l = some { cls := .type "list", dict := none, data := .seq items n, slots := #[] } ∧ (∃ (dd : Option Addr) (n2 : Nat) (sl : Array (Option Value)), s.heap.get? b = some { cls := .type "tuple", dict := dd, data := .seq items2 n2, slots := sl }) ∧ R (.ok (.ret Value.none)) { s with heap := s.heap.update l (Obj.mapSeq fun x => x ++ items2), toks := s.toks }) :=
  .of_wp fun prog w A R s h => by
    obtain ⟨hp, g, d, tk, os⟩ := s
    obtain ⟨hl, ⟨dd, n2, sl, hb⟩, h⟩ := h
    have f1 := AutoSeq1.idx_int
    have f2 := AutoSeq1.sub_tuple_tuple
    have f3 := AutoSeq1.sub_list_list
    have f4 := AutoSeq1.sub_tuple_list
    have f5 := AutoSeq1.sub_list_tuple
    have hz' : (items ++ items2).size ≤ sizeLine + 1 := by rw [Array.size_append]; exact hs2
    wp_walk using (wpAny_updateSeq hl rfl (hz := hs1) (_hz' := hz')), wpAny_loadPart' hl, wpAny_loadPart' hb; exact ⟨_, rfl, h⟩
section
variable {X : Cx} {cls : Nat → Option Addr} {σ : L2.St} {H : Hp} {ι : List Addr} {h h' : Ev.Heap}
/-- a method of a built-in thing, by values -/
def MV (X : Cx) (id : String) (x : V) (xs : List V) (σ : L2.St) (H : Hp) (Q : VK) : Prop :=
  ∀ (pins : List (Addr × Obj)) (s : Shared) (v : Value) (us : List Value), Inv X pins σ H s → RelV x v → Vals xs us → wpAny (model X.prog X.w) X.A (call (.builtin id) (v :: us)) (EP X pins σ Q) X.xe s
theorem MV.of {id : String} {r : V → List V → Hp → VK → Prop} (hr : MtR X id r) {x : V} {xs : List V} {Q : VK} (q : r x xs H Q) : MV X id x xs σ H Q := fun pins s v us I rx rs => hr pins s σ H x xs v us Q I rx rs q
theorem MV.ofM {id : String} {r : V → List V → Hp → VK → Prop} (hr : MtM X id r) {x : V} {xs : List V} {Q : VK} (q : r x xs H Q) : MV X id x xs σ H Q := fun pins s v us I rx rs => hr pins s σ H x xs v us Q I rx rs q
theorem mt_extendT : MtM X "list.extend" (fun x vs H Q => ∃ l b xs zs, x = .ref l ∧ vs = [.ref b] ∧ H l = some (.lst xs) ∧ SqT X.K H b zs ∧ xs.length + zs.length ≤ sizeLine ∧ Q .non (upd H l (.lst (xs ++ zs)))) := by
  intro pins s σ H x vs v us Q I rx rv ⟨l, b, xs, zs, ex, ev, hH, hB, hz, q⟩
  subst ex ev
  cases rx
  obtain ⟨u, rfl, ru⟩ := rv.one
  cases ru
  obtain ⟨z, its, n, r, hl, e⟩ := I.lstM hH
  obtain ⟨its2, r2, ⟨⟨oc, od, dt, sl⟩, e2, c2, n2, d2⟩, z2⟩ := I.tuple hB
  dsimp only at c2 d2
  subst c2 d2
  have hl2 := r2.length
  have hsz : its.toArray.size + its2.toArray.size ≤ sizeLine := by rw [List.size_toArray, List.size_toArray]; omega
  refine call_meets F.slot_list_extend ⟨_, e, rfl⟩ F.entry_list_extend (F.args_list_extend_2 _ _)
    (extend_tup l its.toArray n b its2.toArray (by rw [notLongL hsz, Bool.and_false]; exact Bool.false_ne_true) (by rw [List.size_toArray]; omega) (by omega)) ⟨e, ⟨_, _, _, e2⟩, ?_⟩
  exact ⟨.non, _, I.lset (its' := its ++ its2) hH e (by simp) (r.append r2) (by rw [List.length_append]; omega), rfl, q⟩

/-- the method that a list has -/
def listId : Ev.Nm → Option String
  | .append => some "list.append" | .extend => some "list.extend" | .pop => some "list.pop" | .insert => some "list.insert" | .index => some "list.index" | .clear => some "list.clear" | _ => none
def strId : Ev.Nm → Option String
  | .join => some "str.join" | .strip => some "str.strip" | .rstrip => some "str.rstrip" | .find => some "str.find" | .rfind => some "str.rfind" | .index => some "str.index"
  | .split => some "str.split" | .startswith => some "str.startswith" | .endswith => some "str.endswith" | _ => none
def dctId : Ev.Nm → Option String
  | .get => some "dict.get" | .update => some "dict.update" | _ => none
theorem times_iff {i : Int} : Ev.times i = true ↔ -1000000000 < i ∧ i < 1000000000 := by
  unfold Ev.times
  rw [Bool.and_eq_true, decide_eq_true_iff, decide_eq_true_iff]
theorem place_seq {n k : Nat} {i : Int} (e : Ev.place n i = some k) : seqIndex? i n = some k := by
  rw [place_ixN] at e
  exact (ixN_seq e).1
theorem idx_first {K : PySem.W.Frag} {y : Ev.D} {vy : V} (ry : RV K H ι y vy) (fy : Ev.flat y = true) : ∀ {xs : List Ev.D} {vs : List V} {k : Nat}, RVs K H ι xs vs → xs.all Ev.flat = true → (xs.findIdx? fun x => Ev.eqF x y) = some k →
    ∃ z, vs[k]? = some z ∧ eqV z vy = true ∧ ∀ (m : Nat) (z' : V), m < k → vs[m]? = some z' → eqV z' vy = false := by
  intro xs vs k w fx e
  obtain ⟨hk, e1, e2⟩ := List.findIdx?_eq_some_iff_getElem.mp e
  have fl : ∀ (j : Nat) (x : Ev.D), xs[j]? = some x → Ev.flat x = true := fun j x hx => List.all_eq_true.mp fx x (List.mem_of_getElem? hx)
  obtain ⟨z, hz, rz⟩ := w.get (List.getElem?_eq_getElem hk)
  refine ⟨z, hz, ?_, fun m z' hm hz' => ?_⟩
  · rw [eqV_of rz ry (fl _ _ (List.getElem?_eq_getElem hk)) fy]; exact e1
  · have hm2 : m < xs.length := by omega
    obtain ⟨z2, h2, r2⟩ := w.get (List.getElem?_eq_getElem hm2)
    rw [h2] at hz'
    cases hz'
    rw [eqV_of r2 ry (fl _ _ (List.getElem?_eq_getElem hm2)) fy]
    have := e2 m hm
    simpa using this
theorem allFlatV {K : PySem.W.Frag} {xs : List Ev.D} {vs : List V} (w : RVs K H ι xs vs) (f : xs.all Ev.flat = true) : vs.all flatV = true := allFlat w f
/-- a cell is a list: written anew -/
theorem PQ.put {K : PySem.W.Frag} {i : Nat} {a : Addr} {o u : HO} {c : Ev.Cell} {d : Ev.D} {v : V} (R : Rep K cls H ι h) (e : ι[i]? = some a) (hu : H a = some u) (m : Mut (some u)) (q : RC K cls (upd H a o) ι a c) (r : RV K H ι d v) : PQ K cls H ι d (h.put i c) v (upd H a o) :=
  ⟨ι, .refl _, .write hu m, R.put e hu m q, r.mono (.write hu m) (.refl _)⟩
theorem listM_ok {m : Ev.Nm} {id : String} {a : Nat} {xs ys : List Ev.D} {d : Ev.D} {vx : V} {vs : List V} (hm : listId m = some id) (hx : h.get a = some (.lst xs))
    (e : Ev.listM m a xs ys h = some (d, h')) (R : Rep X.K cls H ι h) (rx : RV X.K H ι (.ref a) vx) (rs : RVs X.K H ι ys vs) : MV X id vx vs σ H (PQ X.K cls H ι d h') := by
  obtain ⟨p, rfl, hp, hc⟩ := R.of_ref rx
  obtain ⟨ws, hw, w⟩ := hc _ hx
  have hlen : ws.length = xs.length := w.length
  have lst : ∀ {zs : List Ev.D} {us : List V}, RVs X.K H ι zs us → RC X.K cls (upd H p (.lst us)) ι p (.lst zs) := fun q => ⟨_, upd_same, q.mono (.write hw True.intro) (.refl _)⟩
  unfold Ev.listM at e
  split at e <;> (try cases hm)
  · obtain ⟨v, rfl, r⟩ := rs.one
    split at e
    · rename_i c
      cases e
      exact .ofM mt_append ⟨p, ws, v, rfl, rfl, hw, by rw [← LINE_eq]; omega, .put R hp hw True.intro (lst (w.app (.cons r .nil))) .non⟩
    · cases e
  · obtain ⟨v, rfl, r⟩ := rs.one
    split at e
    · rename_i c
      cases e
      cases r with
      | tup q w2 =>
        have hl2 := w2.length
        exact .ofM mt_extendT ⟨p, _, ws, _, rfl, rfl, hw, q, by rw [← LINE_eq]; omega, .put R hp hw True.intro (lst (w.app w2)) .non⟩
    · cases e
  · obtain ⟨v, rfl, r⟩ := rs.one
    split at e
    · rename_i zs e2
      split at e
      · rename_i c
        cases e
        obtain ⟨b, rfl, hb, hc2⟩ := R.of_ref r
        obtain ⟨us, hu, w2⟩ := hc2 _ e2
        have hl2 := w2.length
        exact .ofM mt_extend ⟨p, b, ws, us, rfl, rfl, hw, hu, by rw [← LINE_eq]; omega, .put R hp hw True.intro (lst (w.app w2)) .non⟩
      · cases e
    · cases e
  · cases rs
    split at e
    · rename_i y hy
      cases e
      rw [List.getLast?_eq_getElem?] at hy
      obtain ⟨v, hv, r⟩ := w.get hy
      exact .ofM mt_pop ⟨p, ws, v, rfl, rfl, hw, by rw [hlen]; exact hv, .put R hp hw True.intro (lst w.dropLast) r⟩
    · cases e
  · obtain ⟨v, rfl, r⟩ := rs.one
    rw [r.intv]
    split at e
    · rename_i k hk
      split at e
      · rename_i y hy
        split at e
        · rename_i ht
          cases e
          obtain ⟨v, hv, r⟩ := w.get hy
          rw [times_iff] at ht
          exact .ofM mt_popAt ⟨p, ws, _, k, v, rfl, rfl, hw, by omega, by omega, by rw [hlen]; exact place_seq hk, hv, .put R hp hw True.intro (lst (w.eraseIdx k)) r⟩
        · cases e
      · cases e
    · cases e
  · obtain ⟨v, u, rfl, r, q⟩ := rs.two
    rw [r.intv]
    split at e
    · rename_i c
      cases e
      rw [Bool.and_eq_true, Bool.and_eq_true, times_iff, decide_eq_true_iff, decide_eq_true_iff] at c
      refine .of mt_insert ⟨p, ws, _, u, rfl, rfl, hw, by rw [← LINE_eq]; omega, by omega, by omega, .put R hp hw True.intro (lst ?_) .non⟩
      rw [List.append_assoc]
      exact (w.take _).app (.cons q (w.drop _))
    · cases e
  · obtain ⟨v, rfl, r⟩ := rs.one
    split at e
    · rename_i c
      rw [Bool.and_eq_true] at c
      obtain ⟨k, e2, e⟩ := Option.map_eq_some_iff.mp e
      cases e
      obtain ⟨z, hz, h1, h2⟩ := idx_first r c.1 w c.2 e2
      exact .of mt_index ⟨p, ws, v, k, z, rfl, rfl, .of hw, flatV_of r c.1, allFlat w c.2, hz, h1, h2, .here R (.int _)⟩
    · cases e
  · cases rs
    cases e
    exact .ofM mt_clear ⟨p, ws, rfl, rfl, hw, .put R hp hw True.intro (lst .nil) .non⟩
  · cases e
theorem texts_are {K : PySem.W.Frag} : ∀ (ts : List Ev.Txt), (∀ w ∈ ts, w.length ≤ Ev.LINE) → RVs K H ι (ts.map .str) ((ts.map sT).map V.str)
  | [], _ => .nil
  | t :: ts, q => .cons (.str t (q t (List.mem_cons_self ..))) (texts_are ts fun w hw => q w (List.mem_cons_of_mem _ hw))
theorem dctM_ok {m : Ev.Nm} {id : String} {a : Nat} {kvs : List (Ev.Ky × Ev.D)} {ys : List Ev.D} {d : Ev.D} {vx : V} {vs : List V} (hu : X.A.units + 1 < cLine) (hm : dctId m = some id) (hx : h.get a = some (.dct kvs))
    (e : Ev.dctM m a kvs ys h = some (d, h')) (R : Rep X.K cls H ι h) (rx : RV X.K H ι (.ref a) vx) (rs : RVs X.K H ι ys vs) : MV X id vx vs σ H (PQ X.K cls H ι d h') := by
  obtain ⟨p, rfl, hp, hc⟩ := R.of_ref rx
  obtain ⟨ws, hw, w, un⟩ := hc _ hx
  have hlen : ws.length = kvs.length := (Paired.length w).symm
  unfold Ev.dctM at e
  split at e <;> (try cases hm)
  · obtain ⟨v, rfl, r⟩ := rs.one
    obtain ⟨k, e2, e⟩ := Option.map_eq_some_iff.mp e
    cases e
    have ev := key_of' r e2
    subst ev
    intro pins s v us I rx rs
    cases rx
    obtain ⟨u, rfl, ru⟩ := rs.one
    refine d_get1 hu I (DGet.k hw) ru fun w' s' I' rw' => ⟨_, H, I', rw', ?_⟩
    have := w.look k
    cases hl : Ev.dlook kvs k with
    | none => rw [hl] at this; rw [this]; exact .here R .non
    | some d => rw [hl] at this; obtain ⟨v, hv, rv⟩ := this; rw [hv]; exact .here R rv
  · obtain ⟨v, z, rfl, r, q⟩ := rs.two
    obtain ⟨k, e2, e⟩ := Option.map_eq_some_iff.mp e
    cases e
    have ev := key_of' r e2
    subst ev
    intro pins s v us I rx rs
    cases rx
    obtain ⟨u1, u2, rfl, r1, r2⟩ := rs.two
    refine d_get2 hu I (DGet.k hw) r1 r2 fun w' s' I' rw' => ⟨_, H, I', rw', ?_⟩
    have := w.look k
    cases hl : Ev.dlook kvs k with
    | none => rw [hl] at this; rw [this]; exact .here R q
    | some d => rw [hl] at this; obtain ⟨v, hv, rv⟩ := this; rw [hv]; exact .here R rv
  · obtain ⟨v, rfl, r⟩ := rs.one
    split at e
    · rename_i b vs2 hb
      split at e
      · rename_i c
        cases e
        rw [Bool.and_eq_true, decide_eq_true_iff, decide_eq_true_iff] at c
        obtain ⟨b', rfl, hb', hc2⟩ := R.of_ref r
        obtain ⟨us2, hu2, w2, un2⟩ := hc2 _ hb
        have hl2 : us2.length = vs2.length := (Paired.length w2).symm
        have hne : p ≠ b' := fun z => by
          subst z
          exact c.1 (Rep.put.nodup_ix R.nd hb' hp)
        intro pins s v us I rx rs
        cases rx
        obtain ⟨u, rfl, ru⟩ := rs.one
        cases ru
        obtain ⟨z, hd, rs1, rel, dd⟩ := dk_of I.hok hw
        obtain ⟨z2, hd2, rs2, rel2, dd2⟩ := dk_of I.hok hu2
        refine call_meetsIn PySem.F.slot_dict_update dd.typeIs PySem.F.entry_dict_update (PySem.F.args_dict_update_2 _ _) (meets_dict_update (mixKind X.prog X.w) p b' hne hd2)
          ⟨rs1, rs2, dd, dd2, by rw [← rel.length, ← rel2.length, ← LINE_eq]; omega, fun h' hmm _ hs => ?_⟩
        have he : ∃ q, h'.get? p = some q := let ⟨q, _, _, hq, _⟩ := hmm; ⟨q, hq⟩
        have hml := length_mergeK us2 ws
        refine ⟨.non, _, d_write (t' := s.toks) I (by rw [hw]; exact True.intro) hs he (dk_new (by rw [← LINE_eq]; omega) hd (KV.merge rel2 rel) hmm), rfl, ?_⟩
        have kp : Kp H (upd H p (.dK (mergeK ws us2))) := .write hw True.intro
        exact .put R hp hw True.intro ⟨_, upd_same, (w2.puts w un).mono kp (.refl _), un.puts⟩ .non
      · cases e
    · cases e
  · cases e
theorem strM_ok {m : Ev.Nm} {id : String} {s : Ev.Txt} {ys : List Ev.D} {d : Ev.D} {vs : List V} (hm : strId m = some id) (hs : s.length ≤ Ev.LINE)
    (e : Ev.strM m s ys h = some (d, h')) (R : Rep X.K cls H ι h) (rs : RVs X.K H ι ys vs) : MV X id (.str (sT s)) vs σ H (PQ X.K cls H ι d h') := by
  have hs' : (sT s).length ≤ sizeLine := by rw [sT_len, ← LINE_eq]; exact hs
  unfold Ev.strM at e
  split at e <;> (try cases hm)
  · obtain ⟨v, rfl, r⟩ := rs.one
    split at e
    · rename_i ts e2
      split at e
      · rename_i c
        cases e
        obtain ⟨zs, e3, e4⟩ := Option.bind_eq_some_iff.mp e2
        obtain ⟨b, us, rfl, q, w⟩ := items_of R r e3
        have e5 := texts_of w e4
        subst e5
        refine .of mt_join ⟨_, b, ts.map sT, rfl, rfl, q, ?_, ?_⟩
        · rw [List.map_map, show ((fun x : Str => x.length) ∘ sT) = List.length from funext fun x => sT_len x, List.length_map, sT_len]; exact c
        · rw [join_ok]; exact .here R (.str _ (Nat.le_trans (join_len s ts) c))
      · cases e
    · cases e
  · obtain ⟨v, rfl, r⟩ := rs.one
    cases e
    rw [r.strv.1]
    exact .of mt_stripChars ⟨_, _, rfl, rfl, hs', by rw [strip_ok]; exact .here R (.str _ (Nat.le_trans (stripR_len _ _) (Nat.le_trans (stripL_len _ _) hs)))⟩
  · obtain ⟨v, rfl, r⟩ := rs.one
    cases e
    rw [r.strv.1]
    exact .of mt_rstripChars ⟨_, _, rfl, rfl, hs', by rw [rstrip_ok]; exact .here R (.str _ (Nat.le_trans (stripR_len _ _) hs))⟩
  · obtain ⟨v, rfl, r⟩ := rs.one
    cases e
    rw [r.strv.1]
    exact .of mt_find ⟨_, _, rfl, rfl, by rw [find_ok]; exact .here R (.int _)⟩
  · obtain ⟨v, rfl, r⟩ := rs.one
    cases e
    rw [r.strv.1]
    exact .of mt_rfind ⟨_, _, rfl, rfl, by rw [rfind_ok]; exact .here R (.int _)⟩
  · obtain ⟨v, rfl, r⟩ := rs.one
    rw [r.strv.1]
    split at e
    · rename_i c
      cases e
      obtain ⟨i, rest, h1, h2⟩ := index_ok s _ c
      exact .of mt_sindex ⟨_, _, i, rest, rfl, rfl, h1, by rw [h2]; exact .here R (.int _)⟩
    · cases e
  · obtain ⟨v, rfl, r⟩ := rs.one
    rw [r.strv.1]
    split at e
    · rename_i c
      cases e
      rw [Bool.and_eq_true, decide_eq_true_iff, decide_eq_true_iff] at c
      refine .of mt_split ⟨_, _, rfl, rfl, by rw [sT_len]; rfl, by rw [sT_len, ← LINE_eq]; exact c.2, ?_⟩
      rw [split_ok s c.1]
      intro p hp
      refine .list R hp ?_
      exact texts_are _ fun w hw => Nat.le_trans (split_len _ s w hw) hs
    · cases e
  · obtain ⟨v, rfl, r⟩ := rs.one
    cases e
    rw [r.strv.1]
    exact .of mt_startswith ⟨_, _, rfl, rfl, by rw [starts_ok]; exact .here R (.bl _)⟩
  · obtain ⟨v, rfl, r⟩ := rs.one
    cases e
    rw [r.strv.1]
    exact .of mt_endswith ⟨_, _, rfl, rfl, by rw [ends_ok]; exact .here R (.bl _)⟩
  · cases e
end
end EvS
set_option Elab.async false
set_option linter.all false
set_option maxRecDepth 100000
set_option maxHeartbeats 1000000
/-! EvJ: what a call binds. -/
namespace EvS
open PySem PySem.Spec PyProof.Rows L2

/-- a loop whose turns leave the state as it is -/
theorem forIn_still {β γ : Type} {M : Model} {A : Around} {E : Value → Shared → Prop} {s : Shared} {body : β → γ → Sem (ForInStep γ)} (step : γ → β → γ) (ok : γ → List β → Prop)
    (hs : ∀ b x l, ok b (x :: l) → ok (step b x) l ∧ ∀ Q : ForInStep γ → Shared → Prop, Q (.yield (step b x)) s → wpAny M A (body x b) Q E s) :
    ∀ (l : List β) (b : γ) (Q : γ → Shared → Prop), ok b l → Q (l.foldl step b) s → wpAny M A (forIn l b body) Q E s
  | [], b, Q, _, q => by rw [List.forIn_nil]; exact wpAny_pure q
  | x :: l, b, Q, o, q => by
    rw [List.forIn_cons]
    obtain ⟨o2, h⟩ := hs b x l o
    exact wpAny_bind (h _ (forIn_still step ok hs l (step b x) Q o2 q))
/-- names with values behind others, where they are not there yet -/
def fillN (S : List (Str × Value)) (L : List (Str × Value)) : List (Str × Value) := L.foldl (fun S p => if (S.lookup p.1).isNone = true then S ++ [p] else S) S
theorem lookup_append (n : Str) : ∀ (S L : List (Str × Value)), (S ++ L).lookup n = (S.lookup n).or (L.lookup n)
  | [], L => by simp
  | (k, v) :: S, L => by
    rw [List.cons_append, List.lookup_cons, List.lookup_cons]
    cases h : n == k with
    | true => simp
    | false => simpa using lookup_append n S L
theorem fill_lookup (n : Str) : ∀ (L S : List (Str × Value)), (fillN S L).lookup n = (S.lookup n).or (L.lookup n)
  | [], S => by simp [fillN]
  | (k, v) :: L, S => by
    have ih := fill_lookup n L
    show (fillN (if (S.lookup k).isNone = true then S ++ [(k, v)] else S) L).lookup n = _
    rw [ih, List.lookup_cons]
    cases h : n == k with
    | false =>
      split
      · rw [lookup_append, List.lookup_cons, h]; simp
      · rfl
    | true =>
      have e : n = k := eq_of_beq h
      subst e
      split
      · rename_i hn
        rw [lookup_append, List.lookup_cons, h]
        cases hS : S.lookup n with
        | none => simp
        | some w => rw [hS] at hn; cases hn
      · rename_i hn
        cases hS : S.lookup n with
        | none => rw [hS] at hn; exact absurd rfl hn
        | some w => simp
/-- .. the names looked up -/
def fillB (kwd : List (Str × Value)) (S : List (Str × Value)) (B : List Str) : List (Str × Value) := B.foldl (fun S n => if (S.lookup n).isNone = true then (match kwd.lookup n with | some v => S ++ [(n, v)] | none => S) else S) S
theorem fillB_lookup (kwd : List (Str × Value)) (n : Str) : ∀ (B : List Str) (S : List (Str × Value)), (fillB kwd S B).lookup n = (S.lookup n).or (if B.contains n = true then kwd.lookup n else none)
  | [], S => by simp [fillB]
  | k :: B, S => by
    show (fillB kwd (if (S.lookup k).isNone = true then (match kwd.lookup k with | some v => S ++ [(k, v)] | none => S) else S) B).lookup n = _
    rw [fillB_lookup kwd n B]
    by_cases h : n = k
    · subst h
      have e : (n :: B).contains n = true := by simp
      rw [e]
      cases hS : S.lookup n with
      | some w => simp [hS]
      | none =>
        cases hk : kwd.lookup n with
        | none => simp [hS]
        | some v => simp [lookup_append, hS]
    · have e : (k :: B).contains n = B.contains n := by simp [h]
      rw [e]
      have e2 : (n == k) = false := beq_eq_false_iff_ne.mpr h
      cases hS : (S.lookup k).isNone with
      | false => rfl
      | true =>
        cases hk : kwd.lookup k with
        | none => rfl
        | some v => simp [lookup_append, List.lookup_cons, e2]
theorem lookup_out {n : Str} : ∀ {S : List (Str × Value)}, n ∉ S.map (·.1) → S.lookup n = none
  | [], _ => rfl
  | (k, v) :: S, h => by
    rw [List.map_cons, List.mem_cons, not_or] at h
    rw [List.lookup_cons, beq_eq_false_iff_ne.mpr h.1]
    exact lookup_out h.2
theorem foldl_app : ∀ (l : List (Str × Value)) (S : List (Str × Value)), l.foldl (fun (b : List (Str × Value) × List (Str × Value)) x => (b.1 ++ [x], b.2)) (S, []) = (S ++ l, [])
  | [], S => by simp
  | x :: l, S => by rw [List.foldl_cons, foldl_app l]; simp
/-- a def's form: positional parameters A, those by name alone B, none that take the rest -/
structure Plain (fd : FuncData) (A B : List Str) : Prop where
  po : fd.params.posonlyargs = []
  ar : fd.params.args.map (·.arg) = A
  kw : fd.params.kwonlyargs.map (·.arg) = B
  va : fd.params.vararg = none
  ka : fd.params.kwarg = none
theorem bind_run {s : Shared} {fd : FuncData} {A B : List Str} (pl : Plain fd A B) {us its : List Value} {kws kwd : List (Str × Value)} (hus : us.length ≤ A.length) (hits : its.length ≤ A.length)
    (hk : ∀ p ∈ kws, A.contains p.1 = true ∨ B.contains p.1 = true) (nk : ((A.zip us).map (·.1) ++ kws.map (·.1)).Nodup)
    (hd : fd.defaults = .none ∧ its = [] ∨ ∃ (T : Addr) (o : Obj) (n : Nat), fd.defaults = .ref T ∧ s.heap.get? T = some o ∧ o.data = .seq its.toArray n)
    (hD : ∀ n ∈ B, (kws.lookup n).isSome = true ∨ ∃ (D : Addr) (v : Value), fd.kwdefaults = .ref D ∧ kwd.lookup n = some v ∧ ∀ (M : Model), PySem.W.Looks M s.heap (nsGet D n) (some v))
    (hmiss : ∀ n ∈ A.take (A.length - its.length), (((A.zip us) ++ kws).lookup n).isSome = true) :
    BindsTo s fd ⟨us, kws⟩ ((A ++ B).filterMap fun n => ((fillB kwd (fillN (A.zip us ++ kws) ((A.drop (A.length - its.length)).zip its)) B).lookup n).map (n, ·)) := by
  intro M A' E Q q
  unfold bindArgs
  simp only [pl.po, pl.ar, pl.kw, pl.va, pl.ka, List.map_nil, List.nil_append, Option.isSome_none, Option.isNone_none, Bool.false_eq_true, if_false]
  refine wpAny_bind (forIn_still (fun (b : List (Str × Value) × List (Str × Value)) x => (b.1 ++ [x], b.2)) (fun b l => b.2 = [] ∧ (∀ p ∈ l, A.contains p.1 = true ∨ B.contains p.1 = true) ∧ (b.1.map (·.1) ++ l.map (·.1)).Nodup) ?_ kws _ _ ⟨rfl, hk, nk⟩ ?_)
  · intro b x l ⟨o1, o2, o3⟩
    have hn : b.1.lookup x.1 = none := by
      refine lookup_out fun z => ?_
      rw [List.map_cons, List.nodup_append] at o3
      exact o3.2.2 _ z _ (List.mem_cons_self ..) rfl
    refine ⟨⟨o1, fun p hp => o2 p (List.mem_cons_of_mem _ hp), by simpa using o3⟩, fun Q q => ?_⟩
    have c : (A.contains x.1 || B.contains x.1) = true := by rw [Bool.or_eq_true]; exact o2 x (List.mem_cons_self ..)
    rw [c, if_pos rfl, hn, if_neg (by simp)]
    exact wpAny_pure q
  · have e1 : kws.foldl (fun (b : List (Str × Value) × List (Str × Value)) x => (b.1 ++ [x], b.2)) (A.zip us, []) = (A.zip us ++ kws, []) := foldl_app kws _
    rw [e1]
    have si : ∀ (R : Option (Array Value) → Shared → Prop), (∀ o, ((o.getD #[]).toList = its) → R o s) → wpAny M A' (seqItems? fd.defaults) R E s := fun R hR => by
      rcases hd with ⟨e, e2⟩ | ⟨T, o, n, e, ho, hs⟩
      · rw [e]; exact wpAny_pure (hR none (by rw [e2]; rfl))
      · rw [e]; exact wpAny_seqItems ho hs (hR _ rfl)
    refine wpAny_bind (si _ fun o ho => ?_)
    rw [ho]
    have c1 : (decide (us.length > A.length) && true) = false := by rw [decide_eq_false (by omega)]; rfl
    dsimp only
    rw [c1, if_neg Bool.false_ne_true]
    have c2 : its.length - A.length = 0 := by omega
    rw [c2, List.drop_zero]
    have c3 : ((A.take (A.length - its.length)).filter fun n => ((A.zip us ++ kws).lookup n).isNone) = [] := by
      rw [List.filter_eq_nil_iff]
      intro n hn z
      have := hmiss n hn
      rw [Option.isNone_iff_eq_none] at z
      rw [z] at this; cases this
    rw [c3, List.isEmpty_nil, Bool.not_true, if_neg Bool.false_ne_true]
    refine wpAny_bind (forIn_still (fun (b : List (Str × Value)) x => if (b.lookup x.1).isNone = true then b ++ [x] else b) (fun _ _ => True) (fun b x l _ => ⟨trivial, fun R q => ?_⟩) _ _ _ trivial ?_)
    · split
      · rename_i c; rw [if_pos c] at q; exact wpAny_pure q
      · rename_i c; rw [if_neg c] at q; exact wpAny_pure q
    have e3 : (List.foldl (fun (b : List (Str × Value)) x => if (b.lookup x.1).isNone = true then b ++ [x] else b) (A.zip us ++ kws) ((A.drop (A.length - its.length)).zip its)) = fillN (A.zip us ++ kws) ((A.drop (A.length - its.length)).zip its) := rfl
    rw [e3]
    generalize hS2 : fillN (A.zip us ++ kws) ((A.drop (A.length - its.length)).zip its) = S2 at q ⊢
    have hS : ∀ n, (kws.lookup n).isSome = true → (S2.lookup n).isSome = true := fun n hn => by
      rw [← hS2, fill_lookup, lookup_append]
      cases h1 : (A.zip us).lookup n with
      | some w => rfl
      | none =>
        cases h2 : kws.lookup n with
        | none => rw [h2] at hn; cases hn
        | some w => rfl
    refine wpAny_bind (forIn_still (fun (b : List (Str × Value) × List Str) n => (if (b.1.lookup n).isNone = true then (match kwd.lookup n with | some v => b.1 ++ [(n, v)] | none => b.1) else b.1, b.2))
      (fun b l => (∀ n, (S2.lookup n).isSome = true → (b.1.lookup n).isSome = true) ∧ ∀ n ∈ l, n ∈ B) (fun b n l ⟨o1, o2⟩ => ⟨⟨fun m hm => ?_, fun m hm => o2 m (List.mem_cons_of_mem _ hm)⟩, fun R q => ?_⟩) B _ _ ⟨fun _ h => h, fun _ h => h⟩ ?_)
    · have := o1 m hm
      dsimp only
      split
      · split
        · rw [lookup_append]
          cases h : b.1.lookup m with
          | none => rw [h] at this; cases this
          | some w => rfl
        · exact this
      · exact this
    · split
      · rename_i c
        rw [if_pos c] at q
        rcases hD n (o2 n (List.mem_cons_self ..)) with h | ⟨D, v, e, ev, lk⟩
        · have := o1 n (hS n h)
          rw [Option.isNone_iff_eq_none] at c
          rw [c] at this; cases this
        · rw [e]
          rw [ev] at q
          exact wpAny_bind ((lk M).here (wpAny_pure q))
      · rename_i c
        rw [if_neg c] at q
        exact wpAny_pure q
    · have e4 : ∀ (l : List Str) (b : List (Str × Value)), (List.foldl (fun (b : List (Str × Value) × List Str) n => (if (b.1.lookup n).isNone = true then (match kwd.lookup n with | some v => b.1 ++ [(n, v)] | none => b.1) else b.1, b.2)) (b, []) l) = (fillB kwd b l, []) := fun l => by
        induction l with
        | nil => intro b; rfl
        | cons x l ih => intro b; rw [List.foldl_cons, ih]; rfl
      rw [e4]
      exact wpAny_pure q

section
variable {K : PySem.W.Frag} {H : Hp} {ι : List Addr}
/-- an evaluator's value, a value -/
def RU (K : PySem.W.Frag) (H : Hp) (ι : List Addr) (d : Ev.D) (u : Value) : Prop := ∃ v, RV K H ι d v ∧ RelV v u
abbrev RKw (K : PySem.W.Frag) (H : Hp) (ι : List Addr) : List (Ev.Nm × Ev.D) → List (Str × Value) → Prop := Paired fun p q => q.1 = nS p.1 ∧ RU K H ι p.2 q.2
theorem RKw.look {xs : List (Ev.Nm × Ev.D)} {vs : List (Str × Value)} (r : RKw K H ι xs vs) (f : Ev.Nm) : match Ev.klook xs f with
    | some d => ∃ v, vs.lookup (nS f) = some v ∧ RU K H ι d v
    | none => vs.lookup (nS f) = none := by
  induction r with
  | nil => rfl
  | @cons p q xs vs h t ih =>
    obtain ⟨g, d⟩ := p
    obtain ⟨y, v⟩ := q
    obtain ⟨h1, h2⟩ := h
    dsimp only at h1 h2
    subst h1
    unfold Ev.klook Ev.flook
    by_cases e : g = f
    · subst e
      rw [if_pos rfl]
      exact ⟨v, by simp [List.lookup], h2⟩
    · rw [if_neg e]
      have e2 : (nS f == nS g) = false := beq_eq_false_iff_ne.mpr fun z => e (nS_inj z).symm
      rw [List.lookup_cons, e2]
      exact ih
theorem zip_lookup : ∀ {A : List Str} {us : List Value} {i : Nat} {n : Str}, A.Nodup → A[i]? = some n → (A.zip us).lookup n = us[i]?
  | [], _, _, _, _, e => by simp at e
  | a :: A, [], i, n, _, _ => by simp
  | a :: A, u :: us, 0, n, _, e => by simp at e; subst e; simp [List.lookup_cons]
  | a :: A, u :: us, i + 1, n, nd, e => by
    rw [List.nodup_cons] at nd
    have e' : A[i]? = some n := by simpa using e
    have hne : (n == a) = false := beq_eq_false_iff_ne.mpr fun z => by
      subst z
      exact nd.1 (List.mem_of_getElem? e')
    rw [List.zip_cons_cons, List.lookup_cons, hne]
    simpa using zip_lookup (us := us) nd.2 e'
theorem zip_out {A : List Str} {us : List Value} {n : Str} (h : n ∉ A) : (A.zip us).lookup n = none := lookup_out fun z => by
  obtain ⟨p, hp, e⟩ := List.mem_map.mp z
  subst e
  exact h (List.of_mem_zip hp).1
theorem zip_fst : ∀ (A : List Str) (us : List Value), (A.zip us).map (·.1) = A.take us.length
  | [], us => by simp
  | a :: A, [] => by simp
  | a :: A, u :: us => by simp only [List.zip_cons_cons, List.map_cons, List.length_cons, List.take_succ_cons, zip_fst A us]
theorem filt_zip {F : Str → Option Value} : ∀ {l : List Str} {zs : List Value}, Paired (fun n z => F n = some z) l zs → (l.filterMap fun n => (F n).map (n, ·)) = l.zip zs
  | _, _, .nil => rfl
  | _, _, .cons h t => by rw [List.filterMap_cons, h, Option.map_some, List.zip_cons_cons, filt_zip t]
theorem distinct_nodup : ∀ {l : List Ev.Nm}, Ev.distinct l = true → l.Nodup
  | [], _ => List.nodup_nil
  | x :: r, h => by
    unfold Ev.distinct at h
    rw [Bool.and_eq_true] at h
    refine List.nodup_cons.mpr ⟨fun z => ?_, distinct_nodup h.2⟩
    have := h.1
    simp [z] at this
theorem nS_nodup : ∀ {l : List Ev.Nm}, l.Nodup → (l.map nS).Nodup
  | [], _ => List.nodup_nil
  | x :: r, h => by
    rw [List.nodup_cons] at h
    refine List.nodup_cons.mpr ⟨fun z => ?_, nS_nodup h.2⟩
    obtain ⟨y, hy, e⟩ := List.mem_map.mp z
    rw [nS_inj e] at hy
    exact h.1 hy
theorem nS_mem {x : Ev.Nm} {l : List Ev.Nm} : nS x ∈ l.map nS ↔ x ∈ l := ⟨fun z => by
  obtain ⟨y, hy, e⟩ := List.mem_map.mp z
  rw [nS_inj e] at hy
  exact hy, fun h => List.mem_map_of_mem h⟩
theorem paired_get {α β : Type} {R : α → β → Prop} : ∀ {xs : List α} {ys : List β} {i : Nat} {x : α}, Paired R xs ys → xs[i]? = some x → ∃ y, ys[i]? = some y ∧ R x y
  | _, _, _, _, .nil, e => by simp at e
  | _, _, 0, _, .cons h _, e => by simp at e; subst e; exact ⟨_, rfl, h⟩
  | _, _, i + 1, _, .cons _ t, e => by
    obtain ⟨y, h1, h2⟩ := paired_get (i := i) t (by simpa using e)
    exact ⟨y, by simpa using h1, h2⟩
theorem paired_ix {R : Str → Value → Prop} : ∀ {A : List Str} {us : List Value} (hl : A.length = us.length), (∀ (i : Nat) (n : Str) (hi : A[i]? = some n), R n (us[i]'(by have := (List.getElem?_eq_some_iff.mp hi).1; omega))) → Paired R A us
  | [], [], _, _ => .nil
  | [], _ :: _, e, _ => by simp at e
  | _ :: _, [], e, _ => by simp at e
  | a :: A, u :: us, e, h => .cons (h 0 a rfl) (paired_ix (by simpa using e) fun i n hi => h (i + 1) n (by simpa using hi))
/-- a parameter's place, by the evaluator -/
theorem bindP_at : ∀ {pos : List Ev.D} {kws : List (Ev.Nm × Ev.D)} {dfl : List Ev.D} {args : List Ev.Nm} {ds : List Ev.D}, Ev.bindP pos kws dfl args = some ds →
    ds.length = args.length ∧ ∀ (i : Nat) (a : Ev.Nm), args[i]? = some a → ∃ d, ds[i]? = some d ∧ (pos[i]? = some d ∨ (pos[i]? = none ∧ (Ev.klook kws a = some d ∨ (Ev.klook kws a = none ∧ args.length - 1 - i < dfl.length ∧ dfl[dfl.length - 1 - (args.length - 1 - i)]? = some d))))
  | pos, kws, dfl, [], ds, e => by cases e; simp
  | pos, kws, dfl, a :: r, ds, e => by
    unfold Ev.bindP at e
    dsimp only at e
    split at e
    · rename_i d ds' hv hr
      cases e
      obtain ⟨l, ih⟩ := bindP_at hr
      refine ⟨by simp [l], fun i b hb => ?_⟩
      cases i with
      | zero =>
        simp at hb
        subst hb
        refine ⟨d, rfl, ?_⟩
        cases pos with
        | cons p ps => cases hv; exact .inl rfl
        | nil =>
          refine .inr ⟨rfl, ?_⟩
          dsimp only at hv
          cases hk : Ev.klook kws a with
          | some w => rw [hk] at hv; cases hv; exact .inl rfl
          | none =>
            rw [hk] at hv
            dsimp only at hv
            split at hv
            · rename_i c
              refine .inr ⟨rfl, by simpa using c, ?_⟩
              simpa using hv
            · cases hv
      | succ i =>
        obtain ⟨d2, h1, h2⟩ := ih i b (by simpa using hb)
        have e2 : (a :: r).length - 1 - (i + 1) = r.length - 1 - i := by simp; omega
        refine ⟨d2, by simpa using h1, ?_⟩
        rw [e2]
        cases pos with
        | nil => simpa using h2
        | cons p ps => simpa using h2
    · cases e
theorem bindK_at : ∀ {kws kwd : List (Ev.Nm × Ev.D)} {ns : List Ev.Nm} {ds : List Ev.D}, Ev.bindK kws kwd ns = some ds → Paired (fun a d => Ev.klook kws a = some d ∨ (Ev.klook kws a = none ∧ Ev.klook kwd a = some d)) ns ds
  | kws, kwd, [], ds, e => by cases e; exact .nil
  | kws, kwd, a :: r, ds, e => by
    unfold Ev.bindK at e
    dsimp only at e
    split at e
    · rename_i d ds' hv hr
      cases e
      refine .cons ?_ (bindK_at hr)
      cases hk : Ev.klook kws a with
      | some w => rw [hk] at hv; cases hv; exact .inl rfl
      | none => rw [hk] at hv; exact .inr ⟨rfl, hv⟩
    · cases e
theorem paired_of {α β : Type} {R : α → β → Prop} : ∀ {xs : List α}, (∀ x ∈ xs, ∃ y, R x y) → ∃ ys, Paired R xs ys
  | [], _ => ⟨[], .nil⟩
  | x :: xs, h => by
    obtain ⟨y, hy⟩ := h x (List.mem_cons_self ..)
    obtain ⟨ys, hys⟩ := paired_of (xs := xs) fun z hz => h z (List.mem_cons_of_mem _ hz)
    exact ⟨y :: ys, .cons hy hys⟩
theorem paired_app {α β : Type} {R : α → β → Prop} : ∀ {xs xs2 : List α} {ys ys2 : List β}, Paired R xs ys → Paired R xs2 ys2 → Paired R (xs ++ xs2) (ys ++ ys2)
  | _, _, _, _, .nil, b => b
  | _, _, _, _, .cons h t, b => .cons h (paired_app t b)
theorem zs_of {F : Str → Option Value} : ∀ {l : List Ev.Nm} {ds : List Ev.D}, ds.length = l.length → (∀ (i : Nat) (a : Ev.Nm), l[i]? = some a → ∃ d z, ds[i]? = some d ∧ F (nS a) = some z ∧ RU K H ι d z) →
    ∃ zs, Paired (fun n z => F n = some z) (l.map nS) zs ∧ Paired (RU K H ι) ds zs
  | [], [], _, _ => ⟨[], .nil, .nil⟩
  | [], _ :: _, e, _ => by simp at e
  | _ :: _, [], e, _ => by simp at e
  | a :: l, d :: ds, e, h => by
    obtain ⟨d', z, h1, h2, h3⟩ := h 0 a rfl
    simp at h1
    subst h1
    obtain ⟨zs, q1, q2⟩ := zs_of (l := l) (ds := ds) (by simpa using e) fun i b hb => h (i + 1) b (by simpa using hb)
    exact ⟨z :: zs, .cons h2 q1, .cons h3 q2⟩
theorem zs_of2 {F : Str → Option Value} {R : Ev.Nm → Ev.D → Prop} : ∀ {l : List Ev.Nm} {ds : List Ev.D}, Paired R l ds → (∀ a d, a ∈ l → R a d → ∃ z, F (nS a) = some z ∧ RU K H ι d z) →
    ∃ zs, Paired (fun n z => F n = some z) (l.map nS) zs ∧ Paired (RU K H ι) ds zs
  | _, _, .nil, _ => ⟨[], .nil, .nil⟩
  | _, _, .cons r t, h => by
    obtain ⟨z, h2, h3⟩ := h _ _ (List.mem_cons_self ..) r
    obtain ⟨zs, q1, q2⟩ := zs_of2 t fun a d ha => h a d (List.mem_cons_of_mem _ ha)
    exact ⟨z :: zs, .cons h2 q1, .cons h3 q2⟩
/-- a def's defaults, as they stand -/
structure Dfl (K : PySem.W.Frag) (H : Hp) (ι : List Addr) (s : Shared) (fd : FuncData) (sig : Ev.Sig) : Prop where
  dl : sig.dfl.length ≤ sig.args.length
  nd : (sig.args ++ sig.kwo).Nodup
  its : ∃ its : List Value, Paired (RU K H ι) sig.dfl its ∧ (fd.defaults = .none ∧ its = [] ∨ ∃ (T : Addr) (o : Obj) (n : Nat), fd.defaults = .ref T ∧ s.heap.get? T = some o ∧ o.data = .seq its.toArray n)
  kwd : ∃ kwd : List (Str × Value), RKw K H ι sig.kwd kwd ∧ ∀ (n : Str) (v : Value), kwd.lookup n = some v → ∃ D : Addr, fd.kwdefaults = .ref D ∧ ∀ M : Model, PySem.W.Looks M s.heap (nsGet D n) (some v)
theorem bindA_ok {s : Shared} {fd : FuncData} {sig : Ev.Sig} {pos : List Ev.D} {us : List Value} {kws : List (Ev.Nm × Ev.D)} {kws' : List (Str × Value)} {ds : List Ev.D} (hpl : sig.plain = false) (pl : Plain fd (sig.args.map nS) (sig.kwo.map nS))
    (df : Dfl K H ι s fd sig) (rp : Paired (RU K H ι) pos us) (rk : RKw K H ι kws kws') (e : Ev.bindA sig pos kws = some ds) :
    ∃ zs, Paired (RU K H ι) ds zs ∧ BindsTo s fd ⟨us, kws'⟩ (((sig.args ++ sig.kwo).map nS).zip zs) := by
  unfold Ev.bindA at e
  rw [hpl, if_neg Bool.false_ne_true] at e
  split at e
  · rename_i c
    rw [Bool.and_eq_true, Bool.and_eq_true, decide_eq_true_iff] at c
    obtain ⟨⟨c1, c2⟩, c3⟩ := c
    have nkw : (kws.map (·.1)).Nodup := distinct_nodup c2
    have c3' : ∀ k ∈ kws.map (·.1), k ∈ sig.args.drop pos.length ++ sig.kwo := fun k hk => by
      have := List.all_eq_true.mp c3 k hk
      simpa using this
    split at e
    · rename_i a b ha hb
      cases e
      obtain ⟨its, rits, hits⟩ := df.its
      obtain ⟨kwd, rkwd, hkwd⟩ := df.kwd
      have lp : pos.length = us.length := Paired.length rp
      have li : sig.dfl.length = its.length := Paired.length rits
      have ndA : sig.args.Nodup := (List.nodup_append.mp df.nd).1
      have ndA' := nS_nodup ndA
      have hdis : ∀ x ∈ sig.args, ∀ y ∈ sig.kwo, x ≠ y := (List.nodup_append.mp df.nd).2.2
      obtain ⟨la, hat⟩ := bindP_at ha
      have hbt := bindK_at hb
      have names : kws'.map (·.1) = (kws.map (·.1)).map nS := by
        clear c1 c2 c3 c3' nkw ha hb hat hbt
        induction rk with
        | nil => rfl
        | cons h t ih => rw [List.map_cons, List.map_cons, List.map_cons, h.1, ih]
      have hl : (sig.args.map nS).length = sig.args.length := List.length_map ..
      have mapget : ∀ (i : Nat) (a : Ev.Nm), sig.args[i]? = some a → (sig.args.map nS)[i]? = some (nS a) := fun i a h => by rw [List.getElem?_map, h]; rfl
      have zu : ∀ (i : Nat) (a : Ev.Nm), sig.args[i]? = some a → ((sig.args.map nS).zip us).lookup (nS a) = us[i]? := fun i a h => zip_lookup ndA' (mapget i a h)
      have zd : ∀ (i : Nat) (a : Ev.Nm), sig.args[i]? = some a → sig.args.length - its.length ≤ i → (((sig.args.map nS).drop ((sig.args.map nS).length - its.length)).zip its).lookup (nS a) = its[i - (sig.args.length - its.length)]? := fun i a h hi => by
        rw [hl]
        refine zip_lookup (ndA'.sublist (List.drop_sublist _ _)) ?_
        rw [List.getElem?_drop, show sig.args.length - its.length + (i - (sig.args.length - its.length)) = i by omega]
        exact mapget i a h
      have dl := df.dl
      have kk : ∀ p ∈ kws', ∃ k ∈ kws.map (·.1), p.1 = nS k := fun p hp => by
        have : p.1 ∈ kws'.map (·.1) := List.mem_map_of_mem hp
        rw [names] at this
        obtain ⟨k, hk, e⟩ := List.mem_map.mp this
        exact ⟨k, hk, e.symm⟩
      have hzip : ((sig.args.map nS).zip us).map (·.1) = (sig.args.map nS).take us.length := by
        rw [zip_fst]
      have run := bind_run (s := s) pl (us := us) (its := its) (kws := kws') (kwd := kwd) (by rw [hl]; omega) (by rw [hl]; omega) (fun p hp => by
          obtain ⟨k, hk, e⟩ := kk p hp
          rw [e]
          rcases List.mem_append.mp (c3' k hk) with h | h
          · exact .inl (by simpa using nS_mem.mpr (List.mem_of_mem_drop h))
          · exact .inr (by simpa using nS_mem.mpr h)) (by
          rw [hzip, names, List.nodup_append]
          refine ⟨ndA'.sublist (List.take_sublist _ _), nS_nodup nkw, fun x hx y hy e => ?_⟩
          subst e
          obtain ⟨k, hk, e⟩ := List.mem_map.mp hy
          subst e
          rw [← List.map_take] at hx
          have hx := nS_mem.mp hx
          rcases List.mem_append.mp (c3' k hk) with h | h
          · rw [lp] at h
            have nd2 := List.nodup_append.mp (by rw [List.take_append_drop us.length sig.args]; exact ndA : (sig.args.take us.length ++ sig.args.drop us.length).Nodup)
            exact nd2.2.2 k hx k h rfl
          · exact hdis k (List.mem_of_mem_take hx) k h rfl) hits (fun n hn => by
          obtain ⟨k, hk, e⟩ := List.mem_map.mp hn
          subst e
          obtain ⟨j, hj⟩ := List.mem_iff_getElem?.mp hk
          obtain ⟨d, hd1, hd⟩ := paired_get hbt hj
          have lk := rk.look k
          have lk2 := rkwd.look k
          rcases hd with hd | ⟨hd1, hd2⟩
          · rw [hd] at lk
            obtain ⟨v, hv, _⟩ := lk
            exact .inl (by rw [hv]; rfl)
          · rw [hd2] at lk2
            obtain ⟨v, hv, _⟩ := lk2
            obtain ⟨D, e1, e2⟩ := hkwd _ _ hv
            exact .inr ⟨D, v, e1, hv, e2⟩) (fun n hn => by
          rw [hl, ← List.map_take] at hn
          obtain ⟨k, hk, e⟩ := List.mem_map.mp hn
          subst e
          obtain ⟨j, hj⟩ := List.mem_iff_getElem?.mp hk
          have hjl : j < sig.args.length - its.length := by
            have := (List.getElem?_eq_some_iff.mp hj).1
            rw [List.length_take] at this
            omega
          rw [List.getElem?_take_of_lt hjl] at hj
          obtain ⟨d, _, hd⟩ := hat j k hj
          rw [lookup_append, zu j k hj]
          rcases hd with hd | ⟨_, hd | ⟨_, hd, _⟩⟩
          · obtain ⟨u, hu, _⟩ := paired_get rp hd
            rw [hu]; rfl
          · have lk := rk.look k
            rw [hd] at lk
            obtain ⟨v, hv, _⟩ := lk
            rw [hv]
            cases us[j]? <;> rfl
          · omega)
      have hF : ∀ n : Str, (fillB kwd (fillN ((sig.args.map nS).zip us ++ kws') (((sig.args.map nS).drop ((sig.args.map nS).length - its.length)).zip its)) (sig.kwo.map nS)).lookup n =
          ((((((sig.args.map nS).zip us).lookup n).or (kws'.lookup n)).or ((((sig.args.map nS).drop ((sig.args.map nS).length - its.length)).zip its).lookup n)).or (if (sig.kwo.map nS).contains n = true then kwd.lookup n else none)) := fun n => by
        rw [fillB_lookup, fill_lookup, lookup_append]
      generalize hFF : (fun n : Str => (fillB kwd (fillN ((sig.args.map nS).zip us ++ kws') (((sig.args.map nS).drop ((sig.args.map nS).length - its.length)).zip its)) (sig.kwo.map nS)).lookup n) = F at run
      have hF' := fun n => (congrFun hFF n).symm.trans (hF n)
      obtain ⟨z1, p1, q1⟩ := zs_of (K := K) (H := H) (ι := ι) (F := F) la fun i a hi => by
        obtain ⟨d, h1, h2⟩ := hat i a hi
        rw [hF', zu i a hi]
        have lk := rk.look a
        rcases h2 with hd | ⟨hn, hd | ⟨hk, hlt, hd⟩⟩
        · obtain ⟨u, hu, ru⟩ := paired_get rp hd
          exact ⟨d, u, h1, by rw [hu]; rfl, ru⟩
        · rw [hd] at lk
          obtain ⟨v, hv, rv⟩ := lk
          have hu : us[i]? = none := by
            rw [List.getElem?_eq_none_iff] at hn ⊢
            omega
          exact ⟨d, v, h1, by rw [hu, hv]; rfl, rv⟩
        · rw [hk] at lk
          have hu : us[i]? = none := by
            rw [List.getElem?_eq_none_iff] at hn ⊢
            omega
          have hil := (List.getElem?_eq_some_iff.mp hi).1
          obtain ⟨v, hv, rv⟩ := paired_get rits hd
          rw [zd i a hi (by omega), hu, lk, show i - (sig.args.length - its.length) = sig.dfl.length - 1 - (sig.args.length - 1 - i) by omega, hv]
          exact ⟨d, v, h1, rfl, rv⟩
      obtain ⟨z2, p2, q2⟩ := zs_of2 (K := K) (H := H) (ι := ι) (F := F) hbt fun a d ha hd => by
        have hout : nS a ∉ sig.args.map nS := fun z => hdis a (nS_mem.mp z) a ha rfl
        rw [hF', zip_out hout, zip_out (fun z => hout (List.mem_of_mem_drop z))]
        have lk := rk.look a
        have lk2 := rkwd.look a
        have hc : (sig.kwo.map nS).contains (nS a) = true := by simpa using nS_mem.mpr ha
        rw [hc, if_pos rfl]
        rcases hd with hd | ⟨hd1, hd2⟩
        · rw [hd] at lk
          obtain ⟨v, hv, rv⟩ := lk
          exact ⟨v, by rw [hv]; rfl, rv⟩
        · rw [hd1] at lk
          rw [hd2] at lk2
          obtain ⟨v, hv, rv⟩ := lk2
          exact ⟨v, by rw [lk, hv]; rfl, rv⟩
      refine ⟨z1 ++ z2, paired_app q1 q2, ?_⟩
      rw [List.map_append, ← filt_zip (paired_app p1 p2), ← hFF]
      exact run
    · cases e
  · cases e
/-- by place alone -/
theorem bindN_ok {s : Shared} {fd : FuncData} {A : List Str} {us : List Value} (pl : Plain fd A []) (hn : fd.defaults = .none) (nd : A.Nodup) (hl : us.length = A.length) : BindsTo s fd ⟨us, []⟩ (A.zip us) := by
  have run := bind_run (s := s) pl (us := us) (its := []) (kws := []) (kwd := []) (by omega) (Nat.zero_le _) (fun p hp => by cases hp) (by
    rw [List.map_nil, List.append_nil, zip_fst]
    exact nd.sublist (List.take_sublist _ _)) (.inl ⟨hn, rfl⟩) (fun n hn => by cases hn) (fun n hn => by
    obtain ⟨i, hi⟩ := List.mem_iff_getElem?.mp (List.mem_of_mem_take hn)
    rw [List.append_nil, zip_lookup nd hi, List.getElem?_eq_getElem (by have := (List.getElem?_eq_some_iff.mp hi).1; omega)]
    rfl)
  have e : (fillB [] (fillN (A.zip us ++ []) ((A.drop (A.length - ([] : List Value).length)).zip [])) []) = A.zip us := by
    rw [List.zip_nil_right, List.append_nil]; rfl
  rw [e, List.append_nil] at run
  have hp : Paired (fun n z => (A.zip us).lookup n = some z) A us := by
    refine paired_ix hl.symm fun i n hi => ?_
    rw [zip_lookup nd hi]
    exact List.getElem?_eq_getElem (by have := (List.getElem?_eq_some_iff.mp hi).1; omega)
  rw [filt_zip (F := fun n => (A.zip us).lookup n) hp] at run
  exact run
end
end EvS
set_option Elab.async false
set_option linter.all false
set_option maxRecDepth 100000
set_option maxHeartbeats 1000000
/-! EvK: calls. -/
namespace EvS
open PySem PySem.Spec PyProof.Rows L2

/-! ### argument lists -/
/-- no star ahead -/
def plainE : Expr → Bool
  | .Starred _ _ => false
  | _ => true
theorem star_cons {e : Expr} (es : List Expr) (env : Env) (h : plainE e = true) : starEach (e :: es) env = (false, eval e env) :: starEach es env := by
  cases e <;> first | rfl | cases h
theorem star_none (env : Env) (pos : Pos) : ∀ es : List Expr, es.all plainE = true → (backTo pos (starEach es env)).any (·.1) = false
  | [], _ => rfl
  | e :: es, h => by
    rw [List.all_cons, Bool.and_eq_true] at h
    rw [star_cons es env h.1]
    show (false || (backTo pos (starEach es env)).any (·.1)) = false
    rw [star_none env pos es h.2]; rfl
def kwOk (k : Keyword) : Bool := k.arg.isSome
theorem kw_some (env : Env) (pos : Pos) : ∀ ks : List Keyword, ks.all kwOk = true → (backToKw pos (keywordEach ks env)).all (·.1.isSome) = true ∧ (backToKw pos (keywordEach ks env)).any (·.1.isNone) = false ∧ (backToKw pos (keywordEach ks env)).filterMap (·.1) = ks.filterMap (·.arg)
  | [], _ => ⟨rfl, rfl, rfl⟩
  | ⟨nm, v, p⟩ :: ks, h => by
    rw [List.all_cons, Bool.and_eq_true] at h
    obtain ⟨a, b, c⟩ := kw_some env pos ks h.2
    cases nm with
    | none => cases h.1
    | some n =>
      refine ⟨?_, ?_, ?_⟩
      · show (true && (backToKw pos (keywordEach ks env)).all (·.1.isSome)) = true
        rw [a]; rfl
      · show (false || (backToKw pos (keywordEach ks env)).any (·.1.isNone)) = false
        rw [b]; rfl
      · show n :: (backToKw pos (keywordEach ks env)).filterMap (·.1) = n :: ks.filterMap (·.arg)
        rw [c]
section
variable {M : Model} {A : Around} {E : Value → Shared → Prop} {s : Shared} {env : Env} {pos : Pos} {f : Value} {first : List Value} {Q : Value → Shared → Prop}
/-- any plain call -/
theorem call_any {P : Heap → Prop} {es : List Expr} {ks : List Keyword} (h1 : es.all plainE = true) (h2 : ks.all kwOk = true) (hk : ∀ h, P h → ∃ k, (k = Keeper.frame ∨ k = Keeper.machine ∨ k = Keeper.boundFrame) ∧ PySem.W.Looks M h (keeperOf f) k)
    (h : wpAny M A (spliced (backTo pos (starEach es env))) (fun us s1 => wpAny M A (evalAll ((backToKw pos (keywordEach ks env)).map (·.2))) (fun ws s2 => P s2.heap ∧ wpAny M A (call f (first ++ us) ((ks.filterMap (·.arg)).zip ws)) Q E s2) E s1) E s) :
    wpAny M A (callWith pos f first (backTo pos (starEach es env)) (backToKw pos (keywordEach ks env))) Q E s := by
  obtain ⟨a, b, c⟩ := kw_some env pos ks h2
  refine PySem.W.callWith_of (by rw [star_none env pos es h1, b]; rfl) hk ?_
  rw [← c] at h
  cases es with
  | nil =>
    unfold evalArgs
    show wpAny M A (spliced [] >>= _) _ E s
    refine wpAny_bind (thn h fun us s1 h1 => wpAny_bind (wpAny_pure (wpAny_holding ?_)))
    rw [show (backToKw pos (keywordEach ks env)).all (·.1.isSome) = true from a, if_pos rfl]
    refine wpAny_bind (thn h1 fun ws s2 h2 => ?_)
    exact wpAny_bind (wpAny_pure (wpAny_pure (by simpa using h2)))
  | cons e es =>
    rw [List.all_cons, Bool.and_eq_true] at h1
    rw [star_cons es env h1.1] at h ⊢
    exact evalArgs_kw a h
end

/-! ### what is known of the text -/
/-- where classes and defs stand -/
structure Stc where
  cls : Nat → Option Addr
  fad : Nat → Option (Addr × FuncData × List Str)
def cx0 : CXT := fun _ _ _ _ _ _ => False
def e0 : XK := fun _ _ _ => False
/-- a def is run right, k calls deep -/
def FRun (P : Program) (w : World) (K : PySem.W.Frag) (mg : Str → Option Value) (base : Heap) (S : Stc) (tab : Ev.Tab) (fuel T0 k i : Nat) : Prop :=
  ∀ (f : Addr) (fd : FuncData) (ps : List Str), S.fad i = some (f, fd, ps) → ∀ (A : Around) (outer : List Env) (s : Shared) (H : Hp) (ι : List Addr) (h : Ev.Heap) (args : Args) (us : List Value) (vs : List V) (ds : List Ev.D) (d : Ev.D) (h' : Ev.Heap),
    Room (2 * k) A → A.guards = some [] → Env0 P w K mg base A outer s H → T0 ≤ s.toks → BindsTo s fd args (ps.zip us) → Vals vs us → us.length = ps.length → RVs K H ι ds vs → Rep K S.cls H ι h →
    Ev.callK tab fuel showsT k i ds h = some (d, h') → codeAny (model P w) A (.call (.ref f) args) (CR cx0 outer P w H s (PQ K S.cls H ι d h') e0) s
/-- a def's parameters, by what the evaluator has of them -/
structure SgP (fd : FuncData) (ps : List Str) (sig : Ev.Sig) : Prop where
  yes : sig.plain = true
  pl : Plain fd ps []
  nk : sig.kwo = []
  dn : fd.defaults = .none
  nd : ps.Nodup
  len : sig.args.length = ps.length
structure SgN (K : PySem.W.Frag) (fd : FuncData) (ps : List Str) (sig : Ev.Sig) : Prop where
  no : sig.plain = false
  pl : Plain fd (sig.args.map nS) (sig.kwo.map nS)
  ps_ : ps = (sig.args ++ sig.kwo).map nS
  dl : sig.dfl.length ≤ sig.args.length
  nd : (sig.args ++ sig.kwo).Nodup
  its : ∃ its : List Value, (∀ H ι, Paired (RU K H ι) sig.dfl its) ∧ (fd.defaults = .none ∧ its = [] ∨ ∃ (T : Addr) (o : Obj) (n : Nat), fd.defaults = .ref T ∧ K.lookup T = some o ∧ o.data = .seq its.toArray n)
  kwd : ∃ kwd : List (Str × Value), (∀ H ι, RKw K H ι sig.kwd kwd) ∧ ∀ (n : Str) (v : Value), kwd.lookup n = some v → ∃ D : Addr, fd.kwdefaults = .ref D ∧ PySem.W.nsIn K D n = some (some v)
structure DOk (K : PySem.W.Frag) (S : Stc) (tab : Ev.Tab) (i : Nat) (f : Addr) (fd : FuncData) (ps : List Str) (D : Ev.FD) : Prop where
  at_ : S.fad i = some (f, fd, ps)
  df : tab.defs[i]? = some D
  kp : PySem.W.keepIn K (.ref f) = true
  sg : SgP fd ps D.sig ∨ SgN K fd ps D.sig
section
variable {K : PySem.W.Frag} {H : Hp} {ι : List Addr}
theorem ru_of : ∀ {xs : List Ev.D} {vs : List V} {us : List Value}, RVs K H ι xs vs → Vals vs us → Paired (RU K H ι) xs us
  | _, _, _, .nil, .nil => .nil
  | _, _, _, .cons a b, .cons r t => .cons ⟨_, a, r⟩ (ru_of b t)
theorem ru_vals : ∀ {xs : List Ev.D} {us : List Value}, Paired (RU K H ι) xs us → ∃ vs, RVs K H ι xs vs ∧ Vals vs us
  | _, _, .nil => ⟨[], .nil, .nil⟩
  | _, _, .cons ⟨v, a, r⟩ t => by
    obtain ⟨vs, b, q⟩ := ru_vals t
    exact ⟨v :: vs, .cons a b, .cons r q⟩
theorem paired_take {α β : Type} {R : α → β → Prop} : ∀ (n : Nat) {xs : List α} {ys : List β}, Paired R xs ys → Paired R (xs.take n) (ys.take n)
  | 0, _, _, _ => by simp; exact .nil
  | _ + 1, _, _, .nil => .nil
  | n + 1, _, _, .cons h t => .cons h (paired_take n t)
theorem paired_drop {α β : Type} {R : α → β → Prop} : ∀ (n : Nat) {xs : List α} {ys : List β}, Paired R xs ys → Paired R (xs.drop n) (ys.drop n)
  | 0, _, _, h => h
  | _ + 1, _, _, .nil => .nil
  | n + 1, _, _, .cons _ t => paired_drop n t
theorem kw_zip : ∀ {ks : List Ev.Nm} {xs : List Ev.D} {us : List Value}, Paired (RU K H ι) xs us → RKw K H ι (ks.zip xs) ((ks.map nS).zip us)
  | [], _, _, _ => by simp; exact .nil
  | k :: ks, _, _, .nil => by simp; exact .nil
  | k :: ks, _, _, .cons h t => .cons ⟨rfl, h⟩ (kw_zip t)
/-- a def's parameters bound -/
theorem bind_ok {s : Shared} {fd : FuncData} {ps : List Str} {sig : Ev.Sig} {pos : List Ev.D} {us : List Value} {kws : List (Ev.Nm × Ev.D)} {kws' : List (Str × Value)} {ds : List Ev.D} (kin : K.In s.heap) (sg : SgP fd ps sig ∨ SgN K fd ps sig)
    (rp : Paired (RU K H ι) pos us) (rk : RKw K H ι kws kws') (e : Ev.bindA sig pos kws = some ds) :
    ∃ zs, Paired (RU K H ι) ds zs ∧ zs.length = ps.length ∧ BindsTo s fd ⟨us, kws'⟩ (ps.zip zs) := by
  rcases sg with g | g
  · unfold Ev.bindA at e
    rw [g.yes, if_pos rfl] at e
    split at e
    · rename_i c
      cases e
      rw [Bool.and_eq_true, decide_eq_true_iff] at c
      have hk : kws = [] := by simpa using c.1
      subst hk
      cases rk
      have hl : us.length = ps.length := by rw [← Paired.length rp, c.2, g.len]
      exact ⟨us, rp, hl, bindN_ok g.pl g.dn g.nd hl⟩
    · cases e
  · obtain ⟨its, q1, q2⟩ := g.its
    obtain ⟨kwd, q3, q4⟩ := g.kwd
    have df : Dfl K H ι s fd sig := ⟨g.dl, g.nd, ⟨its, q1 H ι, q2.imp id fun ⟨T, o, n, a, b, c⟩ => ⟨T, o, n, a, kin _ _ b, c⟩⟩, ⟨kwd, q3 H ι, fun n v hv => by
      obtain ⟨D, a, b⟩ := q4 n v hv
      exact ⟨D, a, fun M => PySem.W.looks_nsIn kin b⟩⟩⟩
    obtain ⟨zs, r, b⟩ := bindA_ok g.no g.pl df rp rk e
    have hl : zs.length = ps.length := by
      rw [g.ps_, List.length_map, ← Paired.length r]
      unfold Ev.bindA at e
      rw [g.no, if_neg Bool.false_ne_true] at e
      split at e
      · split at e
        · rename_i a b ha hb
          cases e
          rw [List.length_append, List.length_append, (bindP_at ha).1, ← Paired.length (bindK_at hb)]
        · cases e
      · cases e
    rw [g.ps_]
    rw [g.ps_] at hl
    exact ⟨zs, r, hl, b⟩
end
/-! ### the context of a def's body -/
/-- X: a body k calls deep -/
structure GX (S : Stc) (tab : Ev.Tab) (fuel T0 k : Nat) (X : Cx) : Prop where
  room : Room (2 * k + 1) X.A
  gd : X.A.guards = some []
  calm : X.calm = true
  t0 : T0 ≤ X.s_0.toks
  run : ∀ i, FRun X.prog X.w X.K X.mg X.base S tab fuel T0 k i
def cxE (tab : Ev.Tab) (fuel k : Nat) : Ev.Cx := ⟨tab, Ev.callK tab fuel showsT k, fuel, showsT⟩
section
variable {X : Cx} {S : Stc} {tab : Ev.Tab} {fuel T0 k : Nat} {σ : L2.St} {H : Hp} {ι : List Addr} {h h' : Ev.Heap} {pins : List (Addr × Obj)} {s : Shared}
theorem GX.un (g : GX S tab fuel T0 k X) : X.A.units + 64 < cLine := g.room.units
theorem guards_make {A : Around} {C : Addr} {us : List Value} {kw : List (Str × Value)} (h : A.guards = some []) : (A.under (.builtin "type.__call__" ⟨.ref C :: us, kw⟩)).guards = some [] := by
  have e : (Code.builtin "type.__call__" ⟨.ref C :: us, kw⟩).isGuard = false := by first | rfl | decide | simp [Code.isGuard, guardIds]
  simp [Around.under, Code.guards, pushGuards, h, e]
/-- a def is called: its values stand -/
theorem def_run {i : Nat} {f : Addr} {fd : FuncData} {ps : List Str} {D : Ev.FD} {pos : List Ev.D} {kws : List (Ev.Nm × Ev.D)} {us : List Value} {kws' : List (Str × Value)} {ds : List Ev.D} {d : Ev.D} (g : GX S tab fuel T0 k X) (tb : TB X s) (I : Inv X pins σ H s) (o : DOk X.K S tab i f fd ps D)
    (R : Rep X.K S.cls H ι h) (rp : Paired (RU X.K H ι) pos us) (rk : RKw X.K H ι kws kws') (eb : Ev.bindA D.sig pos kws = some ds) (e : Ev.callK tab fuel showsT k i ds h = some (d, h')) :
    wpAny (model X.prog X.w) X.A (call (.ref f) us kws') (EP X pins σ (PQ X.K S.cls H ι d h')) X.xe s := by
  obtain ⟨zs, r, hl, b⟩ := bind_ok I.kIn o.sg rp rk eb
  obtain ⟨vs, rv, rz⟩ := ru_vals r
  refine wpAny_call (codeAny_mono (g.run i f fd ps o.at_ X.A X.stack s H ι h ⟨us, kws'⟩ zs vs ds d h' (g.room.mono (Nat.le_succ _)) g.gd I.env0 (Nat.le_trans g.t0 tb) b rz hl rv R e) fun r s' hq => ?_)
  cases r with
  | error e => exact False.elim hq
  | ok fl =>
    cases fl with
    | ret u => exact I.after hq
    | next => exact False.elim hq
    | brk => exact False.elim hq
    | cont => exact False.elim hq
/-- a new instance -/
theorem make_run {i c : Nat} {f C : Addr} {fd : FuncData} {ps : List Str} {D : Ev.FD} {pos : List Ev.D} {kws : List (Ev.Nm × Ev.D)} {us : List Value} {kws' : List (Str × Value)} {ds : List Ev.D} (g : GX S tab fuel T0 k X) (tb : TB X s) (I : Inv X pins σ H s) (o : DOk X.K S tab i f fd ps D)
    (M : Mk X.K C f) (hC : S.cls c = some C) (R : Rep X.K S.cls H ι h) (rp : Paired (RU X.K H ι) pos us) (rk : RKw X.K H ι kws kws') (eb : Ev.bindA D.sig (.ref h.size :: pos) kws = some ds) (e : Ev.callK tab fuel showsT k i ds (h.new (.obj c [])) = some (.non, h')) :
    wpAny (model X.prog X.w) X.A (call (.ref C) us kws') (EP X pins σ (PQ X.K S.cls H ι (.ref h.size) h')) X.xe s := by
  generalize hp : s.heap.objs.size + 1 = p
  generalize hq : s.heap.objs.size = q
  have hpn : H p = none := I.hok.fresh (by omega)
  have hqn : H q = none := I.hok.fresh (by omega)
  have hne : p ≠ q := by omega
  have I2 := Inv.made (C := C) I
  rw [hp, hq] at I2
  have R1 : Rep X.K S.cls (upd H q (.own p)) ι h := R.free hqn
  have hpn1 : upd H q (.own p) p = none := by rw [upd_ne hne]; exact hpn
  have R2 : Rep X.K S.cls (upd (upd H q (.own p)) p (.ins C q [])) (ι ++ [p]) (h.new (.obj c [])) := R1.new hpn1 ⟨C, q, [], hC, upd_same, .nil⟩
  have kp : Kp H (upd (upd H q (.own p)) p (.ins C q [])) := (Kp.fresh hqn).trans (Kp.fresh hpn1)
  have self : RU X.K (upd (upd H q (.own p)) p (.ins C q [])) (ι ++ [p]) (.ref h.size) (.ref p) := ⟨.ref p, .ref (by rw [← R.len, List.getElem?_append_right (Nat.le_refl _)]; simp), rfl⟩
  have lift : ∀ {d : Ev.D} {u : Value}, RU X.K H ι d u → RU X.K (upd (upd H q (.own p)) p (.ins C q [])) (ι ++ [p]) d u := fun ⟨v, a, b⟩ => ⟨v, a.mono kp (.app _ _), b⟩
  obtain ⟨zs, r, hl, b⟩ := bind_ok I2.kIn o.sg (pos := .ref h.size :: pos) (us := .ref p :: us) (.cons self (Paired.mapP rp fun _ _ z => lift z)) (Paired.mapP rk fun _ _ z => ⟨z.1, lift z.2⟩) eb
  obtain ⟨vs, rv, rz⟩ := ru_vals r
  have run := g.run i f fd ps o.at_ (X.A.under (.builtin "type.__call__" ⟨.ref C :: us, kws'⟩)) X.stack _ _ _ _ ⟨.ref p :: us, kws'⟩ zs vs ds .non h' (g.room.make C us kws') (guards_make g.gd) (I2.env0.make C us kws') (Nat.le_trans g.t0 tb) b rz hl rv R2 e
  refine wpAny_call (make_map (f := f) I.kIn M.makes M.init (beq_iff_eq.mp M.fn) ?_)
  rw [hp, hq]
  refine codeAny_mono run fun r s' hr => ?_
  cases r with
  | error e => exact False.elim hr
  | ok fl =>
    cases fl with
    | ret u =>
      obtain ⟨v, H', I3, rv', ι', pr, kp', R', r'⟩ := I2.after hr
      have ev : v = V.non := r'.nonv
      subst ev
      refine ⟨rv', V.ref p, H', I3, rfl, ι', (Pre.app _ _).trans pr, kp.trans kp', R', .ref (pr _ _ ?_)⟩
      rw [← R.len, List.getElem?_append_right (Nat.le_refl _)]; simp
    | next => exact False.elim hr
    | brk => exact False.elim hr
    | cont => exact False.elim hr
end
end EvS
set_option Elab.async false
set_option linter.all false
set_option maxRecDepth 100000
set_option maxHeartbeats 1000000
/-! EvL: names, displays, argument lists, methods. -/
namespace EvS
open PySem PySem.Spec PyProof.Rows L2

section
variable (X : Cx)
/-- the keywords' values -/
def SKW (ks : List Keyword) (σ : L2.St) (H : Hp) (Q : List V → Hp → Prop) : Prop :=
  ∀ (pos : Pos) (pins : List (Addr × Obj)) (s : Shared), TB X s → Inv X pins σ H s → wpAny (model X.prog X.w) X.A (evalAll ((backToKw pos (keywordEach ks X.env)).map (·.2)))
    (fun ws s2 => ∃ vs H', TB X s2 ∧ Inv X pins σ H' s2 ∧ Vals vs ws ∧ ws.length = ks.length ∧ Q vs H') X.xe s
/-- positional arguments, then the keywords' values -/
def SAK (es : List Expr) (ks : List Keyword) (σ : L2.St) (H : Hp) (Q : List V → Hp → Prop) : Prop :=
  ∀ (pos : Pos) (pins : List (Addr × Obj)) (s : Shared), TB X s → Inv X pins σ H s → wpAny (model X.prog X.w) X.A (spliced (backTo pos (starEach es X.env))) (fun us s1 => wpAny (model X.prog X.w) X.A (evalAll ((backToKw pos (keywordEach ks X.env)).map (·.2)))
    (fun ws s2 => ∃ vs H', TB X s2 ∧ Inv X pins σ H' s2 ∧ Vals vs (us ++ ws) ∧ us.length = es.length ∧ ws.length = ks.length ∧ Q vs H') X.xe s1) X.xe s
end
section
variable {X : Cx} {cls : Nat → Option Addr} {σ : L2.St} {H : Hp} {ι : List Addr} {h h' : Ev.Heap} {pins : List (Addr × Obj)} {s : Shared} {e : Expr} {es : List Expr} {ks : List Keyword} {QL : List V → Hp → Prop} {Q : VK}
theorem skw_nil (q : QL [] H) : SKW X [] σ H QL := fun pos pins s tb I => wpAny_evalAll_nil ⟨[], H, tb, I, .nil, rfl, q⟩
theorem skw_cons {nm : Option Str} {p : Pos} (h : SE X e σ H fun x H1 => SKW X ks σ H1 fun xs H2 => QL (x :: xs) H2) : SKW X (⟨nm, e, p⟩ :: ks) σ H QL := fun pos pins s tb I => by
  show wpAny _ _ (evalAll ((do let v ← eval e X.env; standAt pos; pure v) :: (backToKw pos (keywordEach ks X.env)).map (·.2))) _ _ s
  refine wpAny_evalAll_cons (wpAny_bind (thk tb (h pins s tb I) fun u s1 t1 ⟨x, H1, I1, r1, q1⟩ => wpAny_bind (wpAny_standAt (wpAny_pure ?_))))
  exact thn (q1 pos pins s1 t1 I1) fun ws s2 ⟨vs, H2, t2, I2, r2, l2, q3⟩ => ⟨x :: vs, H2, t2, I2, .cons r1 r2, by rw [List.length_cons, List.length_cons, l2], q3⟩
theorem sak_nil (h : SKW X ks σ H QL) : SAK X [] ks σ H QL := fun pos pins s tb I => Calls.spliced_nil (thn (h pos pins s tb I) fun ws s2 ⟨vs, H', t, I', r, l, q⟩ => ⟨vs, H', t, I', r, rfl, l, q⟩)
theorem sak_cons (he : plainE e = true) (h : SE X e σ H fun x H1 => SAK X es ks σ H1 fun xs H2 => QL (x :: xs) H2) : SAK X (e :: es) ks σ H QL := fun pos pins s tb I => by
  rw [star_cons es X.env he]
  refine Calls.spliced_cons (thk tb (h pins s tb I) fun u s1 t1 ⟨x, H1, I1, r1, q1⟩ => ?_)
  exact thn (q1 pos pins s1 t1 I1) fun us s2 q2 => thn q2 fun ws s3 ⟨vs, H2, t2, I2, r2, l1, l2, q3⟩ => ⟨x :: vs, H2, t2, I2, .cons r1 r2, by rw [List.length_cons, List.length_cons, l1], l2, q3⟩
theorem sa_nil (q : QL [] H) : SA X [] σ H QL := fun pos pins s tb I => Calls.spliced_nil ⟨[], H, I, .nil, q⟩
theorem sa_cons (he : plainE e = true) (h : SE X e σ H fun x H1 => SA X es σ H1 fun xs H2 => QL (x :: xs) H2) : SA X (e :: es) σ H QL := fun pos pins s tb I => by
  rw [star_cons es X.env he]
  refine Calls.spliced_cons (thk tb (h pins s tb I) fun u s1 t1 ⟨x, H1, I1, r1, q1⟩ => ?_)
  exact thn (q1 pos pins s1 t1 I1) fun us s2 ⟨xs, H2, I2, r2, q2⟩ => ⟨x :: xs, H2, I2, .cons r1 r2, q2⟩
theorem SAK.imp {Q' : List V → Hp → Prop} (h : SAK X es ks σ H QL) (q : ∀ vs H', QL vs H' → Q' vs H') : SAK X es ks σ H Q' := fun pos pins s tb I =>
  thn (h pos pins s tb I) fun us s1 h1 => thn h1 fun ws s2 ⟨vs, H', t, I', r, l1, l2, z⟩ => ⟨vs, H', t, I', r, l1, l2, q _ _ z⟩

/-! ### displays -/
theorem se_tup {k : Nat} {pos : Pos} (h : SA X es σ H fun vs H1 => vs.length ≤ sizeLine ∧ ∀ p, H1 p = none → Q (.ref p) (upd H1 p (.tup vs))) : SE X (.Tuple es k pos) σ H Q := fun pins s tb I => by
  refine wpAny_Tuple_spliced (thn (h pos pins s tb I) fun us s1 ⟨xs, H1, I1, r, z, q⟩ => ⟨by rw [← r.length]; exact z, ?_⟩)
  have hn : H1 s1.heap.objs.size = none := I1.hok.fresh (Nat.le_refl _)
  exact ⟨.ref s1.heap.objs.size, _, I1.laid (t' := s1.toks) (fun b u e => Heap.get?_push_of_some _ e) (Nat.le_refl _) (show ObjOk X.prog X.w _ _ _ (.tup xs) from ⟨z, us, r, ⟨_, Heap.get?_push_size _ rfl, rfl, _, rfl⟩⟩), rfl, q _ hn⟩
theorem se_lst {pos : Pos} (h : SA X es σ H fun vs H1 => vs.length ≤ sizeLine ∧ ∀ p, H1 p = none → Q (.ref p) (upd H1 p (.lst vs))) : SE X (.List es pos) σ H Q := fun pins s tb I => by
  refine wpAny_List_spliced (thn (h pos pins s tb I) fun us s1 ⟨xs, H1, I1, r, z, q⟩ => ⟨by rw [← r.length]; exact z, ?_⟩)
  have hn : H1 s1.heap.objs.size = none := I1.hok.fresh (Nat.le_refl _)
  exact ⟨.ref s1.heap.objs.size, _, I1.laid (t' := s1.toks) (fun b u e => Heap.get?_push_of_some _ e) (Nat.le_refl _) (show ObjOk X.prog X.w _ _ _ (.lst xs) from ⟨z, us, 0, r, Heap.get?_push_size _ rfl⟩), rfl, q _ hn⟩
/-- the pairs of a display, from the left: keys and values in one row -/
def SPP (X : Cx) (keys : List (Option Expr)) (vals : List Expr) (σ : L2.St) (H : Hp) (Q : List V → Hp → Prop) : Prop :=
  ∀ (pos : Pos) (pins : List (Addr × Obj)) (s : Shared), TB X s → Inv X pins σ H s → wpAny (model X.prog X.w) X.A (evalPairs (pairTrees keys vals X.env pos)) (fun ws s' => ∃ vs H', Inv X pins σ H' s' ∧ Vals vs (ws.flatMap fun p => [p.1, p.2]) ∧ Q vs H') X.xe s
theorem spp_nil (q : QL [] H) : SPP X [] [] σ H QL := fun pos pins s tb I => pairTrees_nil_walk ⟨[], H, I, .nil, q⟩
theorem spp_cons {k v : Expr} {ks : List (Option Expr)} {vs : List Expr} (h : SE X k σ H fun x H1 => SE X v σ H1 fun y H2 => SPP X ks vs σ H2 fun r H3 => QL (x :: y :: r) H3) : SPP X (some k :: ks) (v :: vs) σ H QL := fun pos pins s tb I =>
  pairTrees_cons_walk (thk tb (h pins s tb I) fun u s1 t1 ⟨x, H1, I1, r1, q1⟩ => thk t1 (q1 pins s1 t1 I1) fun w s2 t2 ⟨y, H2, I2, r2, q2⟩ => thn (q2 pos pins s2 t2 I2) fun ws s3 ⟨rs, H3, I3, r3, q3⟩ => ⟨x :: y :: rs, H3, I3, .cons r1 (.cons r2 r3), q3⟩)
/-- keys and values in pairs -/
def rowKV : List (Ev.Ky × V) → List V
  | [] => []
  | (k, v) :: r => kV (kK k) :: v :: rowKV r
theorem row_carries {P : Program} {w : World} : ∀ {kvs : List (Ev.Ky × V)} {ws : List (Value × Value)}, Vals (rowKV kvs) (ws.flatMap fun p => [p.1, p.2]) → ∃ rs, Carries (mixKind P w) ws rs ∧ KV (kvs.map fun q => (kK q.1, q.2)) rs
  | [], [], _ => ⟨[], True.intro, .nil⟩
  | [], _ :: _, r => by cases r
  | (_, _) :: _, [], r => by cases r
  | (k, v) :: kvs, (a, b) :: ws, r => by
    cases r with
    | cons r1 r =>
      cases r with
      | cons r2 r =>
        obtain ⟨rs, c, q⟩ := row_carries (P := P) (w := w) r
        exact ⟨(kK k, b) :: rs, ⟨kV_is r1, rfl, c⟩, .cons ⟨rfl, r2⟩ q⟩
theorem se_dct {keys : List (Option Expr)} {vals : List Expr} {pos : Pos} (hall : keys.all (·.isSome) = true) (hl : keys.length = vals.length) (h0 : keys ≠ []) (h15 : keys.length ≤ 15)
    (h : ∀ p, H p = none → SPP X keys vals σ (upd H p (.dK [])) fun vs H2 => H2 p = some (.dK []) ∧ ∃ kvs : List (Ev.Ky × V), vs = rowKV kvs ∧ kvs.length ≤ 15 ∧ Q (.ref p) (upd H2 p (.dK (mergeK [] (kvs.map fun q => (kK q.1, q.2)))))) : SE X (.Dict keys vals pos) σ H Q := fun pins s tb I => by
  have hn := I.hok.fresh (Nat.le_refl s.heap.objs.size)
  have I1 := I.laid (a := s.heap.objs.size) (o := .dK []) (h' := s.heap.push { cls := .type "dict", data := .dict #[] }) (t' := s.toks) (fun _ _ q => Heap.get?_push_of_some _ q) (Nat.le_refl _) (dk_empty s.heap I.big)
  refine wpAny_Dict_walk (knd := mixKind X.prog X.w) hall hl h0 h15 (thn (h _ hn pos pins _ tb I1) fun ws s2 ⟨vs, H2, I2, r, e, kvs, ev, lk, q⟩ => ?_)
  subst ev
  obtain ⟨rs, c, rk⟩ := row_carries (P := X.prog) (w := X.w) r
  obtain ⟨z, hd, vs0, r0, dd⟩ := dk_of I2.hok e
  cases r0
  refine ⟨rs, c, dd, fun h' dd' hs => ⟨.ref s.heap.objs.size, _, ?_, rfl, q⟩⟩
  have hz : (mergeK [] (kvs.map fun q => (kK q.1, q.2))).length ≤ sizeLine := by
    have h1 := length_mergeK (kvs.map fun q => (kK q.1, q.2)) []
    rw [List.length_nil, List.length_map] at h1
    rw [sizeLine_eq]; omega
  exact d_write I2 (by rw [e]; exact True.intro) hs (let ⟨q, _, _, hq, _⟩ := dd'; ⟨q, hq⟩) (dk_new hz hd (rk.merge .nil) dd')

/-! ### calls -/
/-- a call of a known value -/
theorem se_call {f : Value} {P : Heap → Prop} {pos p : Pos} {x : Str} (h1 : es.all plainE = true) (h2 : ks.all kwOk = true)
    (hf : ∀ (pins : List (Addr × Obj)) (s : Shared) (R : Value → Shared → Prop), Inv X pins σ H s → R f s → wpAny (model X.prog X.w) X.A (eval (.Name x p) X.env) R X.xe s)
    (hk : ∀ h, P h → ∃ k, (k = Keeper.frame ∨ k = Keeper.machine ∨ k = Keeper.boundFrame) ∧ PySem.W.Looks (model X.prog X.w) h (keeperOf f) k)
    (h : SAK X es ks σ H fun vs H1 => ∀ (pins : List (Addr × Obj)) (s : Shared) (us ws : List Value), TB X s → Inv X pins σ H1 s → Vals vs (us ++ ws) → us.length = es.length → ws.length = ks.length → P s.heap ∧ wpAny (model X.prog X.w) X.A (call f us ((ks.filterMap (·.arg)).zip ws)) (EP X pins σ Q) X.xe s) :
    SE X (.Call (.Name x p) es ks pos) σ H Q := fun pins s tb I => by
  refine wpAny_Call_Name_kw (hf pins s _ I ?_)
  refine call_any (P := P) h1 h2 hk (thn (h pos pins s tb I) fun us s1 h3 => thn h3 fun ws s2 ⟨vs, H', t, I', r, l1, l2, q⟩ => ?_)
  exact q pins s2 us ws t I' r l1 l2
theorem keeps_b (id : String) (M : Model) (h : Heap) (_ : True) : ∃ k, (k = Keeper.frame ∨ k = Keeper.machine ∨ k = Keeper.boundFrame) ∧ PySem.W.Looks M h (keeperOf (.builtin id)) k := ⟨.machine, .inr (.inl rfl), .of_pure rfl⟩
theorem keeps_t (id : String) (M : Model) (h : Heap) (_ : True) : ∃ k, (k = Keeper.frame ∨ k = Keeper.machine ∨ k = Keeper.boundFrame) ∧ PySem.W.Looks M h (keeperOf (.type id)) k := ⟨.machine, .inr (.inl rfl), .of_pure rfl⟩

/-! ### methods -/
theorem form_any (env : Env) (pos : Pos) (n : Nat) (h1 : es.all plainE = true) (h2 : ks.all kwOk = true) (hn : n + 1 < 30) : methodCallForm n (backTo pos (starEach es env)) (backToKw pos (keywordEach ks env)) = true := by
  unfold methodCallForm
  have a : (backTo pos (starEach es env)).all (!·.1) = true := by
    have := star_none env pos es h1
    rw [List.all_eq_not_any_not, show (fun x : Bool × Sem Value => !!x.1) = (fun x => x.1) from funext fun x => Bool.not_not _, this]; rfl
  rw [a, (kw_some env pos ks h2).1, Bool.true_and, Bool.true_and, decide_eq_true_iff]
  split <;> omega
theorem meth_any {M : Model} {A : Around} {E : Value → Shared → Prop} {s : Shared} {env : Env} {o : Expr} {m : Str} {apos pos : Pos} {W : Value → Shared → Prop} (hb : attributeBase o m env (eval o env) = eval o env) (h1 : es.all plainE = true) (h2 : ks.all kwOk = true)
    (hn : es.length + ks.length + 1 < 30) (hl : (apos.endLine == pos.line) = true)
    (h : wpAny M A (eval o env) (fun ov s1 => ∃ fx : Value × List Value, (∀ (pl : Sem Bool) (R : Value × List Value → Shared → Prop), R fx s1 → wpAny M A (getMethod ov m pl) R E s1) ∧
      wpAny M A (callWith pos fx.1 fx.2 (backTo pos (starEach es env)) (backToKw pos (keywordEach ks env))) W E s1) E s) : wpAny M A (eval (.Call (.Attribute o m apos) es ks pos) env) W E s := by
  rw [arm_eval_Call, hb]
  refine wpAny_bind (thn h fun ov s1 ⟨fx, q1, q2⟩ => wpAny_bind (wpAny_standAt ?_))
  unfold methodCall
  rw [form_any env pos _ h1 h2 hn]
  have hp : methodCallPos true o env apos pos = pure pos := by unfold methodCallPos; simp [hl]
  refine wpAny_bind (wpAny_holding ?_)
  unfold calleeOf
  rw [if_pos rfl]
  refine q1 _ _ ?_
  exact wpAny_bind (wpAny_of_eq hp q2)
/-- a built-in thing's method -/
theorem se_bm {o : Expr} {m : Str} {apos pos : Pos} {T id : String} (pa : PlainAttrs T) (slot : Slot T m id) (ty : typeOf (.builtin id) = pure (.type "method_descriptor")) (hb : attributeBase o m X.env (eval o X.env) = eval o X.env) (h1 : es.all plainE = true)
    (hn : es.length + 1 < 30) (hl : (apos.endLine == pos.line) = true) (h : SE X o σ H fun x H1 => tyV X.K T x H1 ∧ SAK X es [] σ H1 fun vs H2 => MV X id x vs σ H2 Q) : SE X (.Call (.Attribute o m apos) es [] pos) σ H Q := fun pins s tb I => by
  refine meth_any hb h1 (by rfl) (by simpa using hn) hl (thk tb (h pins s tb I) fun v s1 t1 ⟨x, H1, I1, r1, tx, q1⟩ => ?_)
  obtain ⟨a1, a2⟩ := tyV_is I1 r1 tx
  refine ⟨(.builtin id, [v]), fun pl R hR => getMethod_builtin a1 pa slot ty a2 hR, ?_⟩
  refine call_any (P := fun _ => True) h1 (by rfl) (keeps_b id _) (thn (q1 pos pins s1 t1 I1) fun us s2 h3 => thn h3 fun ws s3 ⟨vs, H', t, I', r, l1, l2, q⟩ => ⟨trivial, ?_⟩)
  have hw : ws = [] := by simpa using l2
  subst hw
  rw [List.append_nil] at r
  exact q pins s3 v us I' r1 r
/-- an instance's method -/
theorem se_im {o : Expr} {m : Str} {apos pos : Pos} (hb : attributeBase o m X.env (eval o X.env) = eval o X.env) (h1 : es.all plainE = true) (h2 : ks.all kwOk = true) (hn : es.length + ks.length + 1 < 30) (hl : (apos.endLine == pos.line) = true)
    (h : SE X o σ H fun x H1 => ∃ a C dx fs g, x = .ref a ∧ H1 a = some (.ins C dx fs) ∧ Cls X.K C ∧ Meth X.K C m g ∧ fs.lookup m = none ∧ SAK X es ks σ H1 fun vs H2 => ∀ (pins : List (Addr × Obj)) (s : Shared) (us ws : List Value), TB X s → Inv X pins σ H2 s → Vals vs (us ++ ws) →
      us.length = es.length → ws.length = ks.length → wpAny (model X.prog X.w) X.A (call (.ref g) (.ref a :: us) ((ks.filterMap (·.arg)).zip ws)) (EP X pins σ Q) X.xe s) : SE X (.Call (.Attribute o m apos) es ks pos) σ H Q := fun pins s tb I => by
  refine meth_any hb h1 h2 hn hl (thk tb (h pins s tb I) fun v s1 t1 ⟨x, H1, I1, r1, a, C, dx, fs, g, ex, ea, c, mm, l, q1⟩ => ?_)
  subst ex
  obtain rfl : v = Value.ref a := r1
  refine ⟨(.ref g, [.ref a]), fun pl R hR => getmeth_ok I1 ea c mm l hR, ?_⟩
  refine call_any (P := fun h => X.K.In h) h1 h2 (PySem.W.keeps_K mm.kp) (thn (q1 pos pins s1 t1 I1) fun us s2 h3 => thn h3 fun ws s3 ⟨vs, H', t, I', r, l1, l2, q⟩ => ⟨I'.kIn, ?_⟩)
  exact q pins s3 us ws t I' r l1 l2
end
end EvS
set_option Elab.async false
set_option linter.all false
set_option maxRecDepth 100000
set_option maxHeartbeats 1000000
/-! EvM: targets, statements. -/
namespace EvS
open PySem PySem.Spec PyProof.Rows L2

section
variable {prog : Program} {w : World} {A : Around} {E : Value → Shared → Prop} {s : Shared}
/-- a list or a tuple, as it lies -/
def SeqAt (h : Heap) (l : Addr) (items : Array Value) : Prop := h.IsList l items ∨ IsTup h l items
/-- the first i items, and the rest in a new list -/
theorem star_last {l : Addr} {items : Array Value} {i : Nat} {Q : List Value → Shared → Prop} (hh : A.handled = none) (hl : SeqAt s.heap l items) (hi : i ≤ items.size) (hz : items.size ≤ sizeLine)
    (h : ∀ h' tk, (∀ b o, s.heap.get? b = some o → h'.get? b = some o) → wpAny (model prog w) A (newList (items.toList.drop i)) (fun d s3 => Q (items.toList.take i ++ [d]) s3) E { s with heap := h', toks := tk }) :
    wpAny (model prog w) A (unpackItems (.ref l) (i + 1) (some i)) Q E s := by
  have tail : ∀ (h1 : Heap) (it : Addr), it = s.heap.objs.size → (∀ b o, b ≠ it → s.heap.get? b = some o → h1.get? b = some o) →
      (∀ R : List Value → Shared → Prop, (∀ h' tk, (∀ b o, b ≠ it → h1.get? b = some o → h'.get? b = some o) → R (items.toList.drop i) { s with heap := h', toks := tk }) → wpAny (model prog w) A (collect (.ref it)) R E { s with heap := h1 }) →
      wpAny (model prog w) A (do
        let first := items.toList.take i
        if first.length < i then
          rule "unpack.star.too-few-before"
          raiseError "ValueError" s!"not enough values to unpack (expected at least {i + 1 - 1}, got {first.length})"
        let rest ← holding first (collect (.ref it))
        let after := i + 1 - 1 - i
        if rest.length < after then
          rule "unpack.star.too-few"
          raiseError "ValueError" s!"not enough values to unpack (expected at least {i + 1 - 1}, got {i + rest.length})"
        let mid := rest.length - after
        return first ++ [← newList (rest.take mid)] ++ rest.drop mid) Q E { s with heap := h1 } := fun h1 it eit hk hc => by
    have hf : (items.toList.take i).length = i := by rw [List.length_take, Array.length_toList]; omega
    dsimp only
    rw [if_neg (show ¬ (items.toList.take i).length < i by omega)]
    refine wpAny_bind (wpAny_holding (hc _ fun h' tk hk2 => ?_))
    have e0 : i + 1 - 1 - i = 0 := by omega
    rw [e0, if_neg (Nat.not_lt_zero _), Nat.sub_zero]
    have hr : (items.toList.drop i).take (items.toList.drop i).length = items.toList.drop i := List.take_length
    have hd : (items.toList.drop i).drop (items.toList.drop i).length = [] := List.drop_length
    rw [hr, hd]
    refine wpAny_bind (thn (h h' tk fun b o e => ?_) fun d s3 q => wpAny_pure (by simpa using q))
    have hb : b ≠ it := by rw [eit]; exact Nat.ne_of_lt (Heap.lt_size e)
    exact hk2 b o hb (hk b o hb e)
  rcases hl with hl | hl
  · have hlt : l < s.heap.objs.size := let ⟨_, ho, _⟩ := hl; Heap.lt_size ho
    have hne : l ≠ s.heap.objs.size := Nat.ne_of_lt hlt
    unfold unpackItems
    refine wpAny_bind ?_
    unfold notIterableAtAll
    refine wpAny_bind (wpAny_specialOf hl.typeIs F.slot_list_iter.lookup (wpAny_pure ?_))
    simp only [Bool.false_eq_true, if_false]
    refine wpAny_bind (wpAny_holding (wpAny_pyIter_list hl ?_))
    refine wpAny_bind (wpAny_holding (PySem.W.kun_draw hne i 0 _ _ ⟨_, Heap.get?_push_size _ rfl, rfl, rfl⟩ (hl.push _) (by omega) fun h1 it1 sb => ?_))
    rw [List.drop_zero]
    rw [Nat.zero_add] at it1
    refine tail h1 _ rfl (fun b o hb e => sb.extBut b o hb (Heap.get?_push_of_some _ e)) fun R hR => ?_
    have l1 : h1.IsList l items := (hl.push _).extBut sb.extBut hne
    have l2 : l < h1.objs.size := let ⟨_, ho, _⟩ := l1; Heap.lt_size ho
    obtain ⟨oi, hoi, _⟩ := id it1
    exact PySem.W.kun_collect (s := { s with heap := h1 }) (T := "list_iterator") (.inr (.inr (.inl rfl))) (Walks.list (A := A.in1) hh s.heap.objs.size l hne items) (fun j u st => st.1.typeIs) (k := i) hi ⟨it1, l1⟩ (Heap.lt_size hoi) l2 (fun h2 tk hk => hR h2 tk hk) hz
  · have hlt : l < s.heap.objs.size := hl.lt
    have hne : l ≠ s.heap.objs.size := Nat.ne_of_lt hlt
    unfold unpackItems
    refine wpAny_bind ?_
    unfold notIterableAtAll
    refine wpAny_bind (wpAny_specialOf hl.typeIs slot_tuple_iter.lookup (wpAny_pure ?_))
    simp only [Bool.false_eq_true, if_false]
    refine wpAny_bind (wpAny_holding (iter_tuple hl ?_))
    refine wpAny_bind (wpAny_holding (draw_tuple hne i 0 _ _ ⟨_, Heap.get?_push_size _ rfl, rfl, rfl⟩ (hl.push _) (by omega) fun h1 it1 sb => ?_))
    rw [List.drop_zero]
    rw [Nat.zero_add] at it1
    refine tail h1 _ rfl (fun b o hb e => sb.extBut b o hb (Heap.get?_push_of_some _ e)) fun R hR => ?_
    have l1 : IsTup h1 l items := (hl.push _).extBut sb.extBut hne
    obtain ⟨oi, hoi, _⟩ := id it1
    exact PySem.W.kun_collect (s := { s with heap := h1 }) (T := "tuple_iterator") (.inr (.inr (.inr rfl))) (Walks.tuple (A := A.in1) hh s.heap.objs.size l hne items) (fun j u st => st.1.typeIs) (k := i) hi ⟨it1, l1⟩ (Heap.lt_size hoi) l1.lt (fun h2 tk hk => hR h2 tk hk) hz
end
section
variable {X : Cx} {cls : Nat → Option Addr} {σ : L2.St} {H : Hp} {ι : List Addr} {h h' : Ev.Heap} {pins : List (Addr × Obj)} {s : Shared} {e : Expr} {v : V} {QS : L2.St → Hp → Prop} {D : Ends}
/-! ### targets -/
theorem sg_name {i : Nat} {x : Str} {pos : Pos} (hN : X.N.Nodup) (hi : X.N[i]? = some x) (hx : X.env.scope.names.lookup x = some .local) (q : QS (σ.set i (some v)) H) : SG X (.Name x pos) v σ H QS := fun pins s u tb I r =>
  wpAny_assign_Name (store_ok I hN hi (.inl hx) r (fun s' I' => ⟨_, H, I', q⟩) (.inr hx))
theorem sgs_nil (q : QS σ H) : SGs X [] [] σ H QS := fun pins s us tb I r => by
  cases r
  exact assignInOrder_nil ⟨σ, H, I, q⟩
theorem each_cons {tg : Expr} (tgs : List Expr) (env : Env) (h : plainE tg = true) : assignEach (tg :: tgs) env = (false, assign tg env) :: assignEach tgs env := by
  cases tg <;> first | rfl | cases h
theorem sgs_cons {tg : Expr} {tgs : List Expr} {vs : List V} (hp : plainE tg = true) (h : SG X tg v σ H fun σ1 H1 => SGs X tgs vs σ1 H1 QS) : SGs X (tg :: tgs) (v :: vs) σ H QS := fun pins s us tb I r => by
  cases r with
  | cons r1 r =>
    rw [each_cons tgs X.env hp]
    exact assignInOrder_cons (thk tb (h pins s _ tb I r1) fun _ s1 t1 ⟨σ1, H1, I1, q1⟩ => q1 pins s1 _ t1 I1 r)
theorem each_plain (env : Env) : ∀ {tgs : List Expr}, tgs.all plainE = true → (assignEach tgs env).length = tgs.length ∧ (assignEach tgs env).findIdx? (·.1) = none
  | [], _ => ⟨rfl, rfl⟩
  | t :: ts, h => by
    rw [List.all_cons, Bool.and_eq_true] at h
    obtain ⟨a, b⟩ := each_plain env h.2
    rw [each_cons ts env h.1]
    refine ⟨by rw [List.length_cons, List.length_cons, a], ?_⟩
    rw [List.findIdx?_cons, b]; rfl
theorem each_star (env : Env) {t : Str} {p q : Pos} : ∀ {tgs : List Expr}, tgs.all plainE = true → (assignEach (tgs ++ [.Starred (.Name t q) p]) env).length = tgs.length + 1 ∧ (assignEach (tgs ++ [.Starred (.Name t q) p]) env).findIdx? (·.1) = some tgs.length ∧
    (assignEach (tgs ++ [.Starred (.Name t q) p]) env).map (·.2) = (assignEach (tgs ++ [.Name t q]) env).map (·.2)
  | [], _ => ⟨rfl, rfl, rfl⟩
  | u :: ts, h => by
    rw [List.all_cons, Bool.and_eq_true] at h
    obtain ⟨a, b, c⟩ := each_star env (t := t) (p := p) (q := q) h.2
    rw [List.cons_append, List.cons_append, each_cons _ env h.1, each_cons _ env h.1]
    refine ⟨by rw [List.length_cons, List.length_cons, a], ?_, ?_⟩
    · rw [List.findIdx?_cons, b]; rfl
    · rw [List.map_cons, List.map_cons, c]
/-- a row of targets, from a list or a tuple -/
theorem sg_tup {tgs : List Expr} {k : Nat} {pos : Pos} {a : Addr} {vs : List V} (hc : X.calm = true) (hp : tgs.all plainE = true) (hs : SqL X.K H a vs ∨ SqT X.K H a vs) (hl : vs.length = tgs.length) (h : SGs X tgs vs σ H QS) : SG X (.Tuple tgs k pos) (.ref a) σ H QS := fun pins s u tb I r => by
  obtain rfl : u = Value.ref a := r
  obtain ⟨e1, e2⟩ := each_plain X.env hp
  have hh := I.ok.hd hc
  rcases hs with hs | hs
  · obtain ⟨its, rv, pl, hz⟩ := I.list hs
    have el := rv.length
    rw [PyProof.Rows.assign_Tuple]
    refine wpAny_bind (wpAny_standAt ?_)
    unfold unpack
    have hn : (assignEach tgs X.env).length = its.toArray.size := by rw [e1, List.size_toArray]; omega
    rw [hn, e2]
    refine wpAny_bind (wpAny_holding (PySem.W.kun_itemsOf hh pl.isList fun h' hx => ?_))
    exact h pins _ _ tb (I.kept (t' := s.toks) fun b o e => hx b o (Nat.ne_of_lt (Heap.lt_size e)) e) (by simpa using rv)
  · obtain ⟨its, rv, pl, hz⟩ := I.tuple hs
    have el := rv.length
    refine assign_Tuple_tuple hh pl (by rw [e1, List.size_toArray]; omega) e2 fun h' hx => ?_
    exact h pins _ _ tb (I.kept (t' := s.toks) fun b o e => hx b o (Nat.ne_of_lt (Heap.lt_size e)) e) (by simpa using rv)
/-- .. and a name that takes the rest -/
theorem sg_stup {tgs : List Expr} {k : Nat} {x : Str} {pos p p2 : Pos} {a : Addr} {vs : List V} (hc : X.calm = true) (hp : tgs.all plainE = true) (hs : SqL X.K H a vs ∨ SqT X.K H a vs)
    (hl : tgs.length ≤ vs.length) (h : ∀ D, H D = none → SGs X (tgs ++ [.Name x p]) (vs.take tgs.length ++ [.ref D]) σ (upd H D (.lst (vs.drop tgs.length))) QS) : SG X (.Tuple (tgs ++ [.Starred (.Name x p) p2]) k pos) (.ref a) σ H QS := fun pins s u tb I r => by
  obtain rfl : u = Value.ref a := r
  obtain ⟨e1, e2, e3⟩ := each_star X.env (t := x) (p := p2) (q := p) hp
  have hh := I.ok.hd hc
  obtain ⟨its, rv, sq, hz⟩ : ∃ its : List Value, Vals vs its ∧ SeqAt s.heap a its.toArray ∧ vs.length ≤ sizeLine := by
    rcases hs with hs | hs
    · obtain ⟨its, rv, pl, hz⟩ := I.list hs
      exact ⟨its, rv, .inl pl.isList, hz⟩
    · obtain ⟨its, rv, pl, hz⟩ := I.tuple hs
      exact ⟨its, rv, .inr pl, hz⟩
  have el := rv.length
  rw [PyProof.Rows.assign_Tuple]
  refine wpAny_bind (wpAny_standAt ?_)
  unfold unpack
  rw [e1, e2, e3]
  refine wpAny_bind (wpAny_holding (thk tb (star_last (Q := fun items s3 => ∃ D, items = its.take tgs.length ++ [.ref D] ∧ H D = none ∧ Inv X pins σ (upd H D (.lst (vs.drop tgs.length))) s3) hh sq (by rw [List.size_toArray]; omega) (by rw [List.size_toArray]; omega) fun h' tk hk => ?_) fun items s3 t3 ⟨D, ei, hD, I3⟩ => ?_))
  · have I1 : Inv X pins σ H { s with heap := h', toks := tk } := I.kept hk
    have hz2 : (vs.drop tgs.length).length ≤ sizeLine := by rw [List.length_drop]; omega
    refine wpAny_newList ⟨h'.objs.size, rfl, I1.hok.fresh (Nat.le_refl _), ?_⟩ (by rw [List.length_drop]; simp only [List.toList_toArray]; omega)
    exact I1.laid (t' := tk) (fun b u e => Heap.get?_push_of_some _ e) (Nat.le_refl _) (show ObjOk X.prog X.w _ _ _ (.lst _) from ⟨hz2, its.drop tgs.length, 0, rv.drop _, Heap.get?_push_size _ rfl⟩)
  · subst ei
    exact h D hD pins s3 _ t3 I3 ((rv.take _).append (.cons rfl .nil))

/-! ### plain statements -/
theorem sss_nil (q : D.nx σ H) : SSs X [] D σ H := fun pins s tb I => wpAny_execs_nil ⟨σ, H, I, q⟩
theorem sss_cons {st : Stmt} {rest : List Stmt} (h : SS X st { D with nx := fun σ1 H1 => SSs X rest D σ1 H1 } σ H) : SSs X (st :: rest) D σ H := fun pins s tb I => by
  refine wpAny_execs_cons (thk tb (h pins s tb I) fun f s1 t1 q => ?_)
  cases f with
  | next => obtain ⟨σ', H', I', q⟩ := q; exact q pins s1 t1 I'
  | ret v => exact q
  | brk => exact q
  | cont => exact q
theorem ss_expr {pos : Pos} (hs : swapsWith e none pos.line X.env = pure false) (h : SE X e σ H fun _ H1 => D.nx σ H1) : SS X (.Expr e pos) D σ H := fun pins s tb I =>
  wpAny_Expr_any (thn (h pins s tb I) fun v s1 ⟨x, H1, I1, r1, q1⟩ => ⟨σ, H1, I1, q1⟩) I.quiet hs
theorem ss_ret {pos : Pos} (h : SE X e σ H D.rt) : SS X (.Return (some e) pos) D σ H := fun pins s tb I => wpAny_Return_some (thn (h pins s tb I) fun v s1 ⟨x, H1, I1, r1, q1⟩ => ⟨x, σ, H1, I1, r1, q1⟩)
theorem ss_if {c : Expr} {a b : List Stmt} {pos : Pos} (h : SB X c σ H fun k H1 => if k = true then SSs X a D σ H1 else SSs X b D σ H1) : SS X (.If c a b pos) D σ H := fun pins s tb I => by
  refine wpAny_If (thk tb (h pins s tb I) fun k s1 t1 ⟨H1, I1, z⟩ => ?_)
  cases k with
  | true => exact z pins s1 t1 I1
  | false => exact z pins s1 t1 I1
/-- one value to some targets, from the left -/
def SAll (X : Cx) (tgs : List Expr) (v : V) (σ : L2.St) (H : Hp) (Q : L2.St → Hp → Prop) : Prop :=
  ∀ (pins : List (Addr × Obj)) (s : Shared) (u : Value), TB X s → Inv X pins σ H s → RelV v u → wpAny (model X.prog X.w) X.A (assignAll u ((assignEach tgs X.env).map (·.2))) (fun _ s' => ∃ σ' H', Inv X pins σ' H' s' ∧ Q σ' H') X.xe s
theorem sall_one {tg : Expr} (hp : plainE tg = true) (h : SG X tg v σ H QS) : SAll X [tg] v σ H QS := fun pins s u tb I r => by
  rw [each_cons [] X.env hp]
  exact h pins s u tb I r
theorem sall_cons {tg t2 : Expr} {tgs : List Expr} (hp : plainE tg = true) (hp2 : plainE t2 = true) (h : SG X tg v σ H fun σ1 H1 => SAll X (t2 :: tgs) v σ1 H1 QS) : SAll X (tg :: t2 :: tgs) v σ H QS := fun pins s u tb I r => by
  rw [each_cons _ X.env hp]
  have e : (assignEach (t2 :: tgs) X.env).map (·.2) = assign t2 X.env :: (assignEach tgs X.env).map (·.2) := by rw [each_cons tgs X.env hp2]; rfl
  have q : ∀ s1, TB X s1 → ∀ σ1 H1, Inv X pins σ1 H1 s1 → SAll X (t2 :: tgs) v σ1 H1 QS → wpAny (model X.prog X.w) X.A (assignAll u (assign t2 X.env :: (assignEach tgs X.env).map (·.2))) (fun _ s' => ∃ σ' H', Inv X pins σ' H' s' ∧ QS σ' H') X.xe s1 := fun s1 t1 σ1 H1 I1 z => by
    rw [← e]; exact z pins s1 u t1 I1 r
  rw [List.map_cons, e]
  unfold assignAll
  exact wpAny_bind (wpAny_holding (thk tb (h pins s u tb I r) fun _ s1 t1 ⟨σ1, H1, I1, z⟩ => q s1 t1 σ1 H1 I1 z))
theorem ss_asg {tgs : List Expr} {pos : Pos} (hs : swapsWithSole tgs e pos.line X.env = pure false) (hw : swappedStores tgs e X.env = pure none) (h : SE X e σ H fun x H1 => SAll X tgs x σ H1 D.nx) : SS X (.Assign tgs e pos) D σ H := fun pins s tb I =>
  wpAny_Assign_stores (thk tb (h pins s tb I) fun v s1 t1 ⟨x, H1, I1, r1, q1⟩ => thn (q1 pins s1 v t1 I1 r1) fun _ s2 q => q) hs hw
/-- a name with an operator -/
theorem ss_augN {i : Nat} {x : Str} {op : Operator} {p pos : Pos} {v : V} (hN : X.N.Nodup) (hi : X.N[i]? = some x) (hx : X.env.scope.names.lookup x = some .local) (hv : σ[i]? = some (some v)) (hd : (x == ("__debug__" : Str)) = false)
    (h : SE X e σ H fun y H1 => SF2 X (inplaceOp op) v y σ H1 fun z H2 => D.nx (σ.set i (some z)) H2) : SS X (.AugAssign (.Name x p) op e pos) D σ H := fun pins s tb I => by
  obtain ⟨m, hn, hl⟩ := I.loc
  obtain ⟨u, r, l⟩ := hl i x v hi hv (.inl hx)
  have go : wpAny (model X.prog X.w) X.A (eval e X.env) (fun w s₂ => wpAny (model X.prog X.w) X.A (inplaceOp op u w) (fun r s₃ => wpAny (model X.prog X.w) X.A (storeName X.env x r) (fun _ => SP X pins D .next) X.xe s₃) X.xe s₂) X.xe s :=
    thk tb (h pins s tb I) fun w s1 t1 ⟨y, H1, I1, r1, q1⟩ => thn (q1 pins s1 u w t1 I1 r r1) fun z s2 ⟨zv, H2, I2, r2, q2⟩ => store_ok I2 hN hi (.inl hx) r2 (fun s3 I3 => ⟨_, H2, I3, q2⟩) (.inr hx)
  refine wpAny_AugAssign_Name ?_
  rcases l with ⟨hk, hm⟩ | ⟨hk, c, hc, hcell⟩
  · exact wpAny_loadName_local I.ok.kind hk hn hm go
  · have z : X.env.kindOf x = some .local := hx
    rcases hk with hk | hk
    · rw [z] at hk; cases hk
    · rw [z] at hk; cases hk
/-- a field with an operator -/
theorem ss_augF {o : Expr} {f : Str} {op : Operator} {p pos : Pos} (h : SE X o σ H fun x H1 => ∃ a C dx fs v, x = .ref a ∧ H1 a = some (.ins C dx fs) ∧ Cls X.K C ∧ NoAttr X.K C f ∧ fs.lookup f = some v ∧
    SE X e σ H1 fun y H2 => SF2 X (inplaceOp op) v y σ H2 fun z H3 => ∃ dx' fs', H3 a = some (.ins C dx' fs') ∧ fs'.length < 1000 ∧ D.nx σ (upd H3 a (.ins C dx' (putF f z fs')))) : SS X (.AugAssign (.Attribute o f p) op e pos) D σ H := fun pins s tb I => by
  refine wpAny_AugAssign_AttributeAny (thk tb (h pins s tb I) fun ov s1 t1 ⟨x, H1, I1, rx, a, C, dx, fs, v, ex, ea, c, n, l, q⟩ => ?_)
  subst ex
  obtain rfl : ov = Value.ref a := rx
  refine thk t1 (getattr_ok (Q := fun u s2 => Inv X pins σ H1 s2 ∧ RelV v u) I1 ea c n l fun u s2 I2 ru => ⟨I2, ru⟩) fun u s2 t2 ⟨I2, ru⟩ => ?_
  refine thk t2 (q pins s2 t2 I2) fun w s3 t3 ⟨y, H2, I3, ry, q3⟩ => thn (q3 pins s3 u w t3 I3 ru ry) fun w4 s4 ⟨z, H3, I4, rz, dx', fs', ea', l', q4⟩ => ?_
  exact setattr_ok I4 ea' c n l' rz fun s5 I5 => ⟨σ, _, I5, q4⟩

/-! ### loops -/
theorem ss_while {c : Expr} {body : List Stmt} {pos : Pos} (hx : X.xe = fun _ _ => False) (W : Nat → L2.St → Hp → Prop) {m0 : Nat} (w0 : W m0 σ H)
    (turn : ∀ m σ H, W m σ H → SB X c σ H fun b H1 => if b = true then ∃ N : L2.St → Hp → Prop, (∀ σ' H', N σ' H' → ∃ m', m' < m ∧ W m' σ' H') ∧ SSs X body { D with nx := N, ct := N, bk := D.nx } σ H1 else D.nx σ H1) : SS X (.While c body [] pos) D σ H := fun pins s tb I => by
  have hp : PassesOwn (model X.prog X.w) X.A X.env X.xe := by rw [hx]; exact .never
  refine wpAny_While (codeAny_whileLoop (fun n s' => ∃ σ' H', TB X s' ∧ Inv X pins σ' H' s' ∧ W n σ' H') ?_ m0 ⟨σ, H, tb, I, w0⟩)
  rintro n s1 ⟨σ1, H1, t1, I1, w1⟩
  refine wpAny_passesOwn hp (thk t1 (turn n σ1 H1 w1 pins s1 t1 I1) fun b s2 t2 ⟨H2, I2, q2⟩ => ?_)
  cases b with
  | false =>
    rw [if_neg Bool.false_ne_true]
    exact wpAny_execs_nil ⟨σ1, H2, I2, q2⟩
  | true =>
    obtain ⟨N, hN, q2⟩ := q2
    rw [if_pos rfl]
    refine wpAny_passesOwn hp (thk t2 (q2 pins s2 t2 I2) fun f s3 t3 q3 => ?_)
    have again : ∀ {σ3 : L2.St} {H3 : Hp}, Inv X pins σ3 H3 s3 → N σ3 H3 → ∃ m, m < n ∧ ∃ σ' H', TB X s3 ∧ Inv X pins σ' H' s3 ∧ W m σ' H' := fun {σ3 H3} I3 z => let ⟨m', hm, w3⟩ := hN σ3 H3 z; ⟨m', hm, σ3, H3, t3, I3, w3⟩
    cases f with
    | next => obtain ⟨σ3, H3, I3, n3⟩ := q3; exact again I3 n3
    | cont => obtain ⟨σ3, H3, I3, n3⟩ := q3; exact again I3 n3
    | brk => exact q3
    | ret v => exact q3
/-- what is walked -/
def SI (X : Cx) (tg iter : Expr) (σ : L2.St) (H : Hp) (R : It → Hp → Prop) : Prop :=
  ∀ (pins : List (Addr × Obj)) (s : Shared), TB X s → Inv X pins σ H s → wpAny (model X.prog X.w) X.A (eval iter X.env) (fun v s1 => wpAny (model X.prog X.w) X.A (pyIter v) (PIE X pins σ tg R) X.xe s1) X.xe s
theorem ss_for {tg iter : Expr} {body : List Stmt} {pos : Pos} (hx : X.xe = fun _ _ => False) (hc : X.calm = true) (hs : ∀ x, foldedSetIterable iter X.env x = pure x)
    (h : SI X tg iter σ H fun J H1 => ∃ W : Nat → Nat → L2.St → Hp → Prop, (∃ m, W 0 m σ H1) ∧ ∀ i m σ H, W i m σ H → (J.stop i H ∧ D.nx σ H) ∨ (J.go i H ∧ ∃ N : L2.St → Hp → Prop, (∀ σ' H', N σ' H' → ∃ m', m' < m ∧ W (i + 1) m' σ' H') ∧
      ∀ x H', J.yld i H x H' → SG X tg x σ H' fun σ2 H2 => SSs X body { D with nx := N, ct := N, bk := D.nx } σ2 H2)) : SS X (.For tg iter body [] pos) D σ H := fun pins s tb I => by
  have hp : PassesOwn (model X.prog X.w) X.A X.env X.xe := by rw [hx]; exact .never
  refine wpAny_For (thk tb (h pins s tb I) fun v s1 t1 h1 => thk t1 h1 fun itv s2 t2 ⟨it, fp, tn, J, H2, e, I2, T, st2, f2, W, ⟨m0, w0⟩, turn⟩ => ?_) hs
  subst e
  have fpOk : ∀ {H' : Hp}, (∀ b ∈ fp, H' b = none) → ∀ b ∈ fp, FpOk X pins H' b := fun hn b hb => ⟨hn b hb, (f2 b hb).2⟩
  refine codeAny_forLoop_any (fun n s' => ∃ i σ' H', TB X s' ∧ Inv X pins σ' H' s' ∧ tn i s'.heap ∧ (∀ b ∈ fp, H' b = none) ∧ W i n σ' H') ?_ m0 ⟨0, σ, H2, t2, I2, st2, fun b hb => (f2 b hb).1, w0⟩
  rintro n s3 ⟨i, σ3, H3, t3, I3, st3, fr3, w3⟩
  rcases turn i n σ3 H3 w3 with ⟨stop, qn⟩ | ⟨go, N, hN, step⟩
  · refine wpAny_passesOwn hp (thn (T.done X rfl rfl rfl hc i pins s3 σ3 H3 X.xe I3 (fpOk fr3) st3 stop) fun r s4 ⟨hr, I4⟩ => ?_)
    subst hr
    exact wpAny_execs_nil ⟨σ3, H3, I4, qn⟩
  · refine wpAny_passesOwn hp (thk t3 (T.item X rfl rfl rfl hc i pins s3 σ3 H3 X.xe I3 (fpOk fr3) st3 go) fun r s4 t4 ⟨u, hr, h4⟩ => ?_)
    subst hr
    refine wpAny_passesOwn hp (thk t4 h4 fun _ s5 t5 ⟨x, H5, I5, r5, y5, st5, fr5⟩ => ?_)
    have J5 := I5.pinned (fpOk fr5) (T.obj _ _ st5)
    refine wpAny_passesOwn hp (thk t5 (step x H5 y5 _ s5 u t5 J5 r5) fun _ s6 t6 ⟨σ6, H6, I6, q6⟩ => ?_)
    refine wpAny_passesOwn hp (thk t6 (q6 _ s6 t6 I6) fun f s7 t7 q7 => ?_)
    have again : ∀ {σ7 : L2.St} {H7 : Hp}, Inv X (pins ++ pinsAt fp s5.heap) σ7 H7 s7 → N σ7 H7 → ∃ m, m < n ∧ ∃ i σ' H', TB X s7 ∧ Inv X pins σ' H' s7 ∧ tn i s7.heap ∧ (∀ b ∈ fp, H' b = none) ∧ W i m σ' H' := fun {σ7 H7} I7 n7 => by
      obtain ⟨m', hm, w7⟩ := hN σ7 H7 n7
      have pinned : ∀ b ∈ fp, ∀ o, s5.heap.get? b = some o → s7.heap.get? b = some o ∧ H7 b = none := fun b hb o e => let z := I7.pin (b, o) (List.mem_append_right _ (List.mem_append_right _ (mem_pinsAt hb e))); ⟨z.1, z.2.1⟩
      refine ⟨m', hm, i + 1, σ7, H7, t7, I7.unpinned, T.keep _ _ _ st5 fun b hb o e => (pinned b hb o e).1, fun b hb => ?_, w7⟩
      obtain ⟨o, e, d⟩ := T.obj _ _ st5 b hb
      exact (pinned b hb o e).2
    cases f with
    | next => obtain ⟨σ7, H7, I7, n7⟩ := q7; exact again I7 n7
    | cont => obtain ⟨σ7, H7, I7, n7⟩ := q7; exact again I7 n7
    | brk => obtain ⟨σ7, H7, I7, q7⟩ := q7; exact ⟨σ7, H7, I7.unpinned, q7⟩
    | ret v => obtain ⟨x7, σ7, H7, I7, r7, q7⟩ := q7; exact ⟨x7, σ7, H7, I7.unpinned, r7, q7⟩
end
end EvS
set_option Elab.async false
set_option linter.all false
set_option maxRecDepth 100000
set_option maxHeartbeats 1000000
/-! EvN: list comprehensions. -/
namespace EvS
open PySem PySem.Spec PyProof.Rows L2

theorem thkF {α : Type} {t : Sem α} {P Q : α → Shared → Prop} {M : Model} {A : Around} {E : Value → Shared → Prop} {s : Shared} {n : Nat} (hn : n ≤ s.toks) (h : wpAny M A t P (fun _ _ => False) s) (k : ∀ a s1, n ≤ s1.toks → P a s1 → Q a s1) : wpAny M A t Q E s :=
  wpAny_mono (wpAny_toks_of hn h) (fun a s1 z => k a s1 z.1 z.2) fun _ _ z => z.2.elim
/-- a clause's tests -/
def STs (X : Cx) (ifs : List Expr) (σ : L2.St) (H : Hp) (Q : Bool → Hp → Prop) : Prop :=
  ∀ (pins : List (Addr × Obj)) (s : Shared), TB X s → Inv X pins σ H s → wpAny (model X.prog X.w) X.A (forIn ifs true fun c r => if r = true then do let ok ← isTrue c X.env (eval c X.env); pure (ForInStep.yield ok) else pure (ForInStep.yield r)) (TP X pins σ Q) X.xe s
section
variable {X : Cx} {σ : L2.St} {H : Hp} {c : Expr} {QB : Bool → Hp → Prop}
theorem sts_nil (q : QB true H) : STs X [] σ H QB := fun pins s tb I => wpAny_tests_nil ⟨H, I, q⟩
theorem sts_one (h : SB X c σ H QB) : STs X [c] σ H QB := fun pins s tb I => wpAny_tests_one (h pins s tb I)
/-- the block's context -/
abbrev bk (X : Cx) (scope : Scope) (s0 : Shared) (H0 : Hp) (C : Addr) (cl : List (Str × Addr)) (fp : List Addr) : Cx := X.blk s0 H0 scope (compEnvC scope cl C X.env) fp
/-- what a comprehension is to show; vs: its own slots -/
def LC (X : Cx) (elt tg iter : Expr) (ifs : List Expr) (scope : Scope) (vs : List Nat) (σ : L2.St) (H : Hp) (Q : VK) : Prop :=
  SI X tg iter σ H fun J H1 => ∀ D, H1 D = none → ∃ W : Nat → Nat → Hp → Prop, (∃ m, W 0 m (upd H1 D (.lst []))) ∧ ∀ i m H, W i m H → (J.stop i H ∧ Q (.ref D) H) ∨ (J.go i H ∧ ∃ Nx : Hp → Prop, (∀ H', Nx H' → ∃ m', m' < m ∧ W (i + 1) m' H') ∧
    ∀ x H', J.yld i H x H' → ∀ (s0 : Shared) (H0 : Hp) (C : Addr) (cl : List (Str × Addr)) (fp : List Addr), TB X s0 → SG (bk X scope s0 H0 C cl fp) tg x (wipe σ vs) H' fun σ2 H2 => wipe σ2 vs = wipe σ vs ∧ STs (bk X scope s0 H0 C cl fp) ifs σ2 H2 fun b H3 =>
      if b = true then SE (bk X scope s0 H0 C cl fp) elt σ2 H3 fun y H4 => ∃ acc, H4 D = some (.lst acc) ∧ acc.length < sizeLine ∧ Nx (upd H4 D (.lst (acc ++ [y]))) else Nx H3)
theorem lc_walk {pins : List (Addr × Obj)} {s : Shared} {Q : VK} {elt tg iter : Expr} {ifs : List Expr} {scope : Scope} {own : List (Str × Nat)} {pos pos' : Pos} {use : Option (Value → Sem Unit)} {W0 : Value → Shared → Prop}
    (hc : X.calm = true) (hN : X.N.Nodup) (tb : TB X s) (I : Inv X pins σ H s) (ok : BlkOk X.N X.env.scope scope own) (hs : ∀ x, foldedSetIterable iter X.env x = pure x) (h : LC X elt tg iter ifs scope (own.map (·.2)) σ H Q)
    (fin : ∀ D C s' m H', TB X s' → Inv X pins σ H' s' → Q (.ref D) H' → s'.heap.Ns C m → FpOk X pins H' C → compPost (model X.prog X.w) X.A X.xe use W0 (.ref D) C (.ok .next) s') :
    wpAny (model X.prog X.w) X.A (comprehension (.ListComp elt [⟨tg, iter, ifs, 0⟩] scope pos) scope X.env pos' (newList []) false (eval iter X.env) use) W0 X.xe s := by
  have caught : ∀ y ∈ scope.names, y.2 = .free → ∃ c, X.env.cells.lookup y.1 = some c := fun y hy e => by
    rcases ok.free y hy e with k | k
    · exact I.ok.has _ (.inl k)
    · exact I.ok.has _ (.inr k)
  refine wpAny_comprehension_free (use := use) rfl hs (closure_ok caught) ok.kind (fun y hy e => by rw [ok.uniq y hy, e])
    (thk tb (h pins s tb I) fun xv s1 t1 hx => thk t1 hx fun itv s2 t2 ⟨it, fp, tn, J, H2, eit, I2, T, st2, f2, q⟩ => ?_)
  subst eit
  refine wpAny_newObj_type (newEnv_comp ?_) (by show 0 ≤ sizeLine; decide)
  generalize hD : s2.heap.objs.size = D
  obtain ⟨W, ⟨m0, w0⟩, turn⟩ := q D (I2.hok.fresh (Nat.le_of_eq hD))
  generalize e3 : ({ s2 with heap := s2.heap.push { cls := .type "list", data := .seq ([] : List Value).toArray } } : Shared) = s3
  have t3 : TB X s3 := by rw [← e3]; exact t2
  have I3 : Inv X pins σ (upd H2 D (.lst [])) s3 := by
    subst e3
    exact I2.laid (t' := s2.toks) (fun b o e => Heap.get?_push_of_some _ e) (Nat.le_of_eq hD) ⟨Nat.zero_le _, [], 0, .nil, by rw [← hD]; exact Heap.get?_push_size _ rfl⟩
  have heap3 : s3.heap = s2.heap.push { cls := .type "list", data := .seq ([] : List Value).toArray } := by rw [← e3]
  have under : ∀ b ∈ fp, b < s2.heap.objs.size := fun b hb => let ⟨o, e, _⟩ := T.obj _ _ st2 b hb; Heap.lt_size e
  have f3 : ∀ b ∈ fp, FpOk X pins (upd H2 D (.lst [])) b ∧ b < s3.heap.objs.size := fun b hb => by
    have lt := under b hb
    refine ⟨⟨?_, (f2 b hb).2⟩, by rw [heap3, Heap.size_push]; exact Nat.lt_succ_of_lt lt⟩
    rw [upd_ne (by rw [← hD]; exact Nat.ne_of_lt lt)]
    exact (f2 b hb).1
  have st3 : tn 0 s3.heap := T.keep _ _ _ st2 fun b _ o e => by rw [heap3]; exact Heap.get?_push_of_some _ e
  have I4 := block_start I3 ok hN f3
  show codeAny _ _ (.compStart (.ListComp elt [⟨tg, iter, ifs, 0⟩] scope pos) 0 (.ref it) (.ref D) (compEnvC scope (cellsFrom (s3.heap.objs.size + 1) scope.names (cloFrom X.env.cells scope.names [])) s3.heap.objs.size X.env)) (compPost (model X.prog X.w) X.A X.xe use W0 (.ref D) s3.heap.objs.size) { s3 with heap := pushCells (s3.heap.push { cls := .type "dict", data := .dict #[] }) scope.names }
  generalize hcl : cellsFrom (s3.heap.objs.size + 1) scope.names (cloFrom X.env.cells scope.names []) = cl at I4 ⊢
  generalize hH3 : upd H2 D (.lst []) = H3 at I3 I4 w0 f3
  have frees : ∀ b ∈ fp, H3 b = none := fun b hb => (f3 b hb).1.1
  generalize e4 : ({ s3 with heap := pushCells (s3.heap.push { cls := .type "dict", data := .dict #[] }) scope.names } : Shared) = s4 at I4 ⊢
  have st4 : tn 0 s4.heap := T.keep _ _ _ st3 fun b _ o e => by rw [← e4]; exact pushCells_keeps _ _ _ _ (Heap.get?_push_of_some _ e)
  have t4 : s3.toks ≤ s4.toks := by rw [← e4]; exact Nat.le_refl _
  have stay : ∀ {σ' : L2.St} {H' : Hp} {s' : Shared}, Inv (bk X scope s3 H3 s3.heap.objs.size cl fp) [] σ' H' s' → (∀ b ∈ fp, H' b = none) → ∀ b ∈ fp, FpOk (bk X scope s3 H3 s3.heap.objs.size cl fp) [] H' b := fun {σ' H' s'} I' hn b hb =>
    ⟨hn b hb, (I'.ok.exf b hb).1, I'.ok.exfs b hb, .inl hb, fun x c e => (I'.ok.exf b hb).2 x c e, fun p hp => by cases hp⟩
  have loop : codeAny (model X.prog X.w) X.A (.compLoop (.ListComp elt [⟨tg, iter, ifs, 0⟩] scope pos) 0 (.ref it) (.ref D) (compEnvC scope cl s3.heap.objs.size X.env)) (compPost (model X.prog X.w) X.A X.xe use W0 (.ref D) s3.heap.objs.size) s4 := by
    refine compLoop_any (fun n s' => ∃ i H', s3.toks ≤ s'.toks ∧ Inv (bk X scope s3 H3 s3.heap.objs.size cl fp) [] (wipe σ (own.map (·.2))) H' s' ∧ tn i s'.heap ∧ (∀ b ∈ fp, H' b = none) ∧ W i n H') ?_ m0 ⟨0, H3, t4, I4, st4, frees, w0⟩
    rintro n s5 ⟨i, H5, t5, I5, st5, n5, w5⟩
    rcases turn i n H5 w5 with ⟨stop, qq⟩ | ⟨go, Nx, hNx, step⟩
    · refine thkF t5 (T.done (bk X scope s3 H3 s3.heap.objs.size cl fp) rfl rfl rfl hc i [] s5 _ H5 (fun _ _ => False) I5 (stay I5 n5) st5 stop) fun r s6 t6 ⟨hr, I6⟩ => ?_
      subst hr
      have I7 : Inv X pins σ H5 s6 := I3.call' (ch := fp) I6.os I6.base I6.hok I6.bare fun b hb => let ⟨⟨_, g1, g2, g3, g4, g5⟩, _⟩ := f3 b hb; ⟨g3, g1, g4, g5⟩
      have bare : H5 s3.heap.objs.size = none := I6.free
      obtain ⟨m, hn, _⟩ := I6.loc
      exact fin D s3.heap.objs.size s6 m H5 (Nat.le_trans t3 t6) I7 qq hn (I3.fpOk (Nat.le_refl _) bare)
    · refine thkF t5 (T.item (bk X scope s3 H3 s3.heap.objs.size cl fp) rfl rfl rfl hc i [] s5 _ H5 (fun _ _ => False) I5 (stay I5 n5) st5 go) fun r s6 t6 ⟨u, hr, h6⟩ => ?_
      subst hr
      refine thkF t6 h6 fun _ s7 t7 ⟨x, H7, I7, r7, y7, st7, n7⟩ => ?_
      have J7 := I7.pinned (stay I7 n7) (T.obj _ _ st7)
      refine thkF t7 (step x H7 y7 s3 H3 s3.heap.objs.size cl fp t3 _ s7 u t7 J7 r7) fun _ s8 t8 ⟨σ8, H8, I8, hw, q8⟩ => ?_
      refine thkF t8 (q8 _ s8 t8 I8) fun b s9 t9 ⟨H9, I9, q9⟩ => ?_
      have next : ∀ {s' : Shared} {H' : Hp}, s3.toks ≤ s'.toks → Inv (bk X scope s3 H3 s3.heap.objs.size cl fp) ([] ++ pinsAt fp s7.heap) σ8 H' s' → Nx H' →
          ∃ m, m < n ∧ ∃ i H', s3.toks ≤ s'.toks ∧ Inv (bk X scope s3 H3 s3.heap.objs.size cl fp) [] (wipe σ (own.map (·.2))) H' s' ∧ tn i s'.heap ∧ (∀ b ∈ fp, H' b = none) ∧ W i m H' := fun {s' H'} t' I' nx => by
        obtain ⟨m', hm, w'⟩ := hNx H' nx
        have held : ∀ b ∈ fp, ∀ o, s7.heap.get? b = some o → s'.heap.get? b = some o ∧ H' b = none := fun b hb o e => let z := I'.pin (b, o) (List.mem_append_right _ (List.mem_append_right _ (mem_pinsAt hb e))); ⟨z.1, z.2.1⟩
        have hl : (wipe σ (own.map (·.2))).length = σ8.length := by rw [← hw, wipe_length]
        refine ⟨m', hm, i + 1, H', t', (I'.unpinned (pins := [])).weak hl (fun j v e => ?_), T.keep _ _ _ st7 fun b hb o e => (held b hb o e).1, fun b hb => ?_, w'⟩
        · rw [← hw] at e
          exact (wipe_some e).1
        · obtain ⟨o, e, _⟩ := T.obj _ _ st7 b hb
          exact (held b hb o e).2
      cases b with
      | false => exact next t9 I9 q9
      | true =>
        refine thkF t9 (q9 _ s9 t9 I9) fun z s10 t10 ⟨yv, H10, I10, r10, acc, hD10, hz10, nx⟩ => ?_
        exact thk t10 (app_ok (X := bk X scope s3 H3 s3.heap.objs.size cl fp) (Q := fun _ s11 => Inv (bk X scope s3 H3 s3.heap.objs.size cl fp) ([] ++ pinsAt fp s7.heap) σ8 (upd H10 D (.lst (acc ++ [yv]))) s11) I10 hD10 hz10 r10 fun s11 I11 => I11) fun _ s11 t11 I11 => next t11 I11 nx
  exact codeAny_compStart_list loop (T.self X.A 0 _ _ _ st4 loop)
theorem se_lc {elt tg iter : Expr} {ifs : List Expr} {scope : Scope} {own : List (Str × Nat)} {pos : Pos} {Q : VK} (hc : X.calm = true) (hN : X.N.Nodup) (ok : BlkOk X.N X.env.scope scope own) (hs : ∀ x, foldedSetIterable iter X.env x = pure x)
    (h : LC X elt tg iter ifs scope (own.map (·.2)) σ H Q) : SE X (.ListComp elt [⟨tg, iter, ifs, 0⟩] scope pos) σ H Q := fun pins s tb I => by
  rw [eval_ListComp]
  refine lc_walk hc hN tb I ok hs h fun D C s' m H' t' I' q hn f => ⟨m, hn, fun h'' sb => ?_⟩
  obtain ⟨f0, f1, f2, f3, f4, f5⟩ := f
  exact ⟨.ref D, H', I'.turned (t' := s'.toks) (fun b o hb e => (sb.2 b hb).trans e) f0 f1 f3 f4 f5, rfl, q⟩
/-- name = [..], on one line -/
theorem ss_lc {i : Nat} {y : Str} {py : Pos} {elt tg iter : Expr} {ifs : List Expr} {scope : Scope} {own : List (Str × Nat)} {pos spos : Pos} {D : Ends} (hc : X.calm = true) (hN : X.N.Nodup) (hy : X.N[i]? = some y) (hl : X.env.scope.names.lookup y = some .local)
    (hsw : swapsWith (.ListComp elt [⟨tg, iter, ifs, 0⟩] scope pos) (some (.Name y py)) spos.line X.env = pure true) (ok : BlkOk X.N X.env.scope scope own) (hs : ∀ x, foldedSetIterable iter X.env x = pure x)
    (h : LC X elt tg iter ifs scope (own.map (·.2)) σ H fun x H1 => D.nx (σ.set i (some x)) H1) : SS X (.Assign [.Name y py] (.ListComp elt [⟨tg, iter, ifs, 0⟩] scope pos) spos) D σ H := fun pins s tb I => by
  rw [exec_Assign_Name_used _ _ _ _ hsw]
  refine wpAny_bind (wpAny_standAt (wpAny_bind ?_))
  show wpAny _ X.A (do let _ ← comprehension (.ListComp elt [⟨tg, iter, ifs, 0⟩] scope pos) scope X.env (firstIterPos [⟨tg, iter, ifs, 0⟩] pos) (newList []) false (eval iter X.env) (some (assign (.Name y py) X.env))) _ _ s
  refine wpAny_bind (thn (lc_walk (W0 := fun _ s' => SP X pins D .next s') hc hN tb I ok hs h fun L C s' m H' t' I' q hn f => ?_) fun _ s' hq => wpAny_pure (wpAny_pure hq))
  obtain ⟨f0, f1, f2, f3, f4, f5⟩ := f
  show wpAny _ _ (assign (.Name y py) X.env (.ref L)) _ _ _
  refine wpAny_assign_Name (store_ok2 (v := V.ref L) I' hN hy (.inl hl) rfl (fun s2 I2 ⟨a, sb, ha⟩ => ?_) (.inr hl))
  have apart : C ≠ a := ha.elim (fun z => by rw [z]; exact f1) fun z e => f4 y a z e.symm
  exact ⟨m, hn.sameBut sb apart, fun h3 sb3 => ⟨_, H', I2.turned (t' := s2.toks) (fun b o hb e => (sb3.2 b hb).trans e) f0 f1 f3 f4 f5, q⟩⟩
end
end EvS
set_option Elab.async false
set_option linter.all false
set_option maxRecDepth 100000
set_option maxHeartbeats 2000000
/-! EvZ: zip of any two of a list, a tuple, a text. -/
namespace EvS
open PySem PySem.Spec PyProof.Rows L2

/-- what a part of a zip walks -/
inductive ZK where
  | lst (l : Addr) | tup (l : Addr) | str (x : Str) (t : Tok) (wide : Bool)
/-- its iterator, n turns on -/
def ZSt (h : Heap) (i : Addr) (n : Nat) : ZK → Prop
  | .lst l => h.IsListIter i l n
  | .tup l => h.IsTupleIter i l n
  | .str x t w => h.IsStrIter i (if w then "str_iterator" else "str_ascii_iterator") x t n
/-- where what it walks lies (0: nowhere) -/
def ZK.base : ZK → Addr
  | .lst l => l | .tup l => l | .str _ _ _ => 0
/-- the n-th item, none -/
def ZItem (h : Heap) (n : Nat) : ZK → Value → Prop
  | .lst l, u => ∃ xs, h.IsList l xs ∧ xs[n]? = some u
  | .tup l, u => ∃ xs, h.IsTuple l xs ∧ xs[n]? = some u
  | .str x _ _, u => ∃ c t, x.cps[n]? = some c ∧ u = .str ⟨#[c]⟩ t
def ZEnd (h : Heap) (n : Nat) : ZK → Prop
  | .lst l => ∃ xs, h.IsList l xs ∧ xs[n]? = none
  | .tup l => ∃ xs, h.IsTuple l xs ∧ xs[n]? = none
  | .str x _ _ => x.cps[n]? = none
theorem ZSt.at {h h' : Heap} {i : Addr} {n : Nat} {k : ZK} (z : ZSt h i n k) (e : ∀ o, h.get? i = some o → h'.get? i = some o) : ZSt h' i n k := by
  cases k with
  | lst l => obtain ⟨o, ho, r⟩ := z; exact ⟨o, e o ho, r⟩
  | tup l => obtain ⟨o, ho, r⟩ := z; exact ⟨o, e o ho, r⟩
  | str x t w => obtain ⟨o, ho, r⟩ := z; exact ⟨o, e o ho, r⟩
theorem ZSt.has {h : Heap} {i : Addr} {n : Nat} {k : ZK} (z : ZSt h i n k) : ∃ o, h.get? i = some o ∧ ∀ v, o.data ≠ .cell v := by
  cases k with
  | lst l => obtain ⟨o, ho, _, d⟩ := z; exact ⟨o, ho, fun v q => by rw [d] at q; cases q⟩
  | tup l => obtain ⟨o, ho, _, d⟩ := z; exact ⟨o, ho, fun v q => by rw [d] at q; cases q⟩
  | str x t w => obtain ⟨o, ho, _, d⟩ := z; exact ⟨o, ho, fun v q => by rw [d] at q; cases q⟩
theorem ZItem.at {h h' : Heap} {n : Nat} {k : ZK} {u : Value} (z : ZItem h n k u) (e : ∀ o, h.get? k.base = some o → h'.get? k.base = some o) : ZItem h' n k u := by
  cases k with
  | lst l => obtain ⟨xs, ⟨o, ho, r⟩, q⟩ := z; exact ⟨xs, ⟨o, e o ho, r⟩, q⟩
  | tup l => obtain ⟨xs, ⟨o, ho, r⟩, q⟩ := z; exact ⟨xs, ⟨o, e o ho, r⟩, q⟩
  | str x t w => exact z
theorem ZEnd.at {h h' : Heap} {n : Nat} {k : ZK} (z : ZEnd h n k) (e : ∀ o, h.get? k.base = some o → h'.get? k.base = some o) : ZEnd h' n k := by
  cases k with
  | lst l => obtain ⟨xs, ⟨o, ho, r⟩, q⟩ := z; exact ⟨xs, ⟨o, e o ho, r⟩, q⟩
  | tup l => obtain ⟨xs, ⟨o, ho, r⟩, q⟩ := z; exact ⟨xs, ⟨o, e o ho, r⟩, q⟩
  | str x t w => exact z
section
variable {prog : Program} {w : World} {A : Around} {E : Value → Shared → Prop} {s : Shared}
theorem zn_item {i : Addr} {n : Nat} {k : ZK} {u : Value} {Q : Value → Shared → Prop} (st : ZSt s.heap i n k) (hi : ZItem s.heap n k u)
    (q : ∀ u' h' tk, ZItem s.heap n k u' → ZSt h' i (n + 1) k → Heap.SameBut i s.heap h' → Q u' { s with heap := h', toks := tk }) : wpAny (model prog w) A (Builtin.SmallTypes.nextOf (.ref i)) Q E s := by
  cases k with
  | lst l =>
    obtain ⟨xs, hl, hx⟩ := hi
    exact wpAny_nextOf_list_item st hl hx fun h' st' sb => q u h' s.toks ⟨xs, hl, hx⟩ st' sb
  | tup l =>
    obtain ⟨xs, hl, hx⟩ := hi
    exact RZ.nextOf_tuple_item st hl hx fun h' st' sb => q u h' s.toks ⟨xs, hl, hx⟩ st' sb
  | str x t wd =>
    obtain ⟨c, t', hx, rfl⟩ := hi
    cases wd with
    | false => exact wpAny_nextOf_ascii_item st hx fun h' st' sb => q _ h' _ ⟨c, _, hx, rfl⟩ st' sb
    | true => exact wpAny_nextOf_wide_item st hx fun h' st' sb => q _ h' _ ⟨c, _, hx, rfl⟩ st' sb
theorem zn_end {i : Addr} {n : Nat} {k : ZK} {Q : Value → Shared → Prop} (hh : A.handled = none) (st : ZSt s.heap i n k) (hi : ZEnd s.heap n k)
    (q : ∀ h' e, Heap.ExtBut i s.heap h' → (∃ o, h'.get? e = some o ∧ o.cls = .type "StopIteration") → E (.ref e) { s with heap := h' }) : wpAny (model prog w) A (Builtin.SmallTypes.nextOf (.ref i)) Q E s := by
  cases k with
  | lst l => obtain ⟨xs, hl, hx⟩ := hi; exact wpAny_nextOf_list_end hh st hl hx q
  | tup l => obtain ⟨xs, hl, hx⟩ := hi; exact RZ.nextOf_tuple_end hh st hl hx q
  | str x t wd =>
    cases wd with
    | false => exact wpAny_nextOf_ascii_end hh st hi q
    | true => exact wpAny_nextOf_wide_end hh st hi q
/-- the objects of a zip lie apart -/
theorem zg_item {z TI TO i1 i2 : Addr} {k1 k2 : ZK} {n : Nat} {a b u0 v0 : Value} {Q : Value → Shared → Prop} (D : ZipApart z TI TO i1 i2 k1.base k2.base) (hz : IsZip s.heap z TI TO .none) (hI : IsPair s.heap TI (.ref i1) (.ref i2)) (hO : IsPair s.heap TO a b)
    (h1 : ZSt s.heap i1 n k1) (h2 : ZSt s.heap i2 n k2) (x1 : ZItem s.heap n k1 u0) (x2 : ZItem s.heap n k2 v0)
    (q : ∀ x y h' tk, ZItem s.heap n k1 x → ZItem s.heap n k2 y → IsZip h' z TI TO (rawInt s.heap.objs.size) → IsPair h' TO x y → ZSt h' i1 (n + 1) k1 → ZSt h' i2 (n + 1) k2 → IsPair h' s.heap.objs.size x y → h'.objs.size = s.heap.objs.size + 1 →
      (∀ c o, c ≠ z → c ≠ TO → c ≠ i1 → c ≠ i2 → s.heap.get? c = some o → h'.get? c = some o) → Q (.ref s.heap.objs.size) { s with heap := h', toks := tk }) :
    wpAny (model prog w) A (Builtin.«zip.__next__» ⟨[.ref z], []⟩) (fun fin s' => ∃ v, fin = .done (.ret v) ∧ Q v s') E s := by
  show wpAny _ _ (field (.ref z) 2 >>= _) _ _ _
  refine wpAny_bind (wpAny_field hz rfl (x := .bool false) rfl ?_)
  show wpAny _ _ (field (.ref z) 3 >>= _) _ _ _
  refine wpAny_bind (wpAny_field hz rfl (x := .ref TI) rfl (wpAny_bind (wpAny_seqItems hI rfl ?_)))
  show wpAny _ _ (Builtin.SmallTypes.ownedTupleIsFree (.ref z) >>= _) _ _ _
  refine wpAny_bind ?_
  unfold Builtin.SmallTypes.ownedTupleIsFree
  refine wpAny_bind (wpAny_field hz rfl (x := .none) rfl (wpAny_pure ?_))
  simp only [if_true]
  refine wpAny_bind (wpAny_rule (wpAny_bind (wpAny_field hz rfl (x := .ref TO) rfl ?_)))
  refine wpAny_bind (wpAny_setField_rec hz (by simp) fun g1 z1 e1 => wpAny_bind ?_)
  replace z1 : IsZip g1 z TI TO .ellipsis := z1
  simp only [List.zipIdx_cons, List.zipIdx_nil, List.forIn_cons, List.forIn_nil]
  have k1' : ∀ c, c ≠ z → ∀ o, s.heap.get? c = some o → g1.get? c = some o := fun c hc o e => e1.extBut _ _ hc e
  refine wpAny_bind (wpAny_bind (wpAny_onRaise ?_))
  show wpAny _ _ (Builtin.SmallTypes.nextOf (.ref i1) >>= _) _ _ _
  refine wpAny_bind (zn_item (h1.at fun o e => k1' _ D.i1z o e) (x1.at fun o e => k1' _ D.l1z o e) fun x g2 tk2 ix s2 e2 => wpAny_pure ?_)
  replace e2 : Heap.SameBut i1 g1 g2 := e2
  have O2 : IsPair g2 TO a b := e2.extBut _ _ D.TOi1 (k1' _ D.TOz _ hO)
  refine wpAny_bind (wpAny_seqItems O2 rfl (wpAny_bind (wpAny_updateSeq_pair O2 fun g3 O3 e3 => ?_)))
  replace O3 : IsPair g3 TO x b := O3
  replace e3 : Heap.SameBut TO g2 g3 := e3
  refine wpAny_bind (wpAny_letGo (wpAny_pure (wpAny_bind (wpAny_bind (wpAny_onRaise ?_)))))
  show wpAny _ _ (Builtin.SmallTypes.nextOf (.ref i2) >>= _) _ _ _
  have k3 : ∀ c, c ≠ z → c ≠ i1 → c ≠ TO → ∀ o, s.heap.get? c = some o → g3.get? c = some o := fun c c1 c2 c3 o e => e3.extBut _ _ c3 (e2.extBut _ _ c2 (k1' c c1 o e))
  refine wpAny_bind (zn_item (h2.at fun o e => k3 _ D.i2z D.i12.symm D.TOi2.symm o e) (x2.at fun o e => k3 _ D.l2z D.l2i1 D.l2TO o e) fun y g4 tk4 iy s4 e4 => wpAny_pure ?_)
  replace e4 : Heap.SameBut i2 g3 g4 := e4
  have O4 : IsPair g4 TO x b := e4.extBut _ _ D.TOi2 O3
  refine wpAny_bind (wpAny_seqItems O4 rfl (wpAny_bind (wpAny_updateSeq_pair O4 fun g5 O5 e5 => ?_)))
  replace O5 : IsPair g5 TO x y := O5
  replace e5 : Heap.SameBut TO g4 g5 := e5
  refine wpAny_bind (wpAny_letGo (wpAny_pure (wpAny_pure (wpAny_bind (wpAny_seqItems O5 rfl (wpAny_bind (wpAny_newTuple ?_)))))))
  have size5 : g5.objs.size = s.heap.objs.size := by rw [e5.1, e4.1, e3.1, e2.1, e1.1]
  have z5 : IsZip g5 z TI TO .ellipsis := e5.extBut _ _ D.TOz.symm (e4.extBut _ _ D.i2z.symm (e3.extBut _ _ D.TOz.symm (e2.extBut _ _ D.i1z.symm z1)))
  have k5 : ∀ c o, c ≠ z → c ≠ TO → c ≠ i1 → c ≠ i2 → s.heap.get? c = some o → g5.get? c = some o := fun c o c1 c2 c3 c4 e => e5.extBut _ _ c2 (e4.extBut _ _ c4 (k3 c c1 c3 c2 o e))
  have s5 : ZSt g5 i1 (n + 1) k1 := s2.at fun o e => e5.extBut _ _ D.TOi1.symm (e4.extBut _ _ D.i12 (e3.extBut _ _ D.TOi1.symm e))
  have t5 : ZSt g5 i2 (n + 1) k2 := s4.at fun o e => e5.extBut _ _ D.TOi2.symm e
  have under : z < g5.objs.size := Heap.lt_size z5
  show wpAny _ _ (Builtin.SmallTypes.ownedTupleHandOut (.ref z) (.ref g5.objs.size) >>= _) _ _ _
  refine wpAny_bind ?_
  unfold Builtin.SmallTypes.ownedTupleHandOut
  have z6 : IsZip (g5.push { cls := .type "tuple", data := .seq #[x, y] }) z TI TO .ellipsis := Heap.get?_push_of_some _ z5
  refine wpAny_bind (wpAny_setField_rec z6 (by simp) fun g7 z7 e7 => ?_)
  replace z7 : IsZip g7 z TI TO (rawInt g5.objs.size) := z7
  refine wpAny_setField_rec z7 (by simp) fun g8 z8 e8 => ?_
  replace z8 : IsZip g8 z TI TO (rawInt g5.objs.size) := z8
  have up : ∀ c o, c ≠ z → g5.get? c = some o → g8.get? c = some o := fun c o hc e => e8.extBut _ _ hc (e7.extBut _ _ hc (Heap.get?_push_of_some _ e))
  have T8 : IsPair g8 g5.objs.size x y := e8.extBut _ _ (Nat.ne_of_gt under) (e7.extBut _ _ (Nat.ne_of_gt under) (Heap.get?_push_size _ rfl))
  have size8 : g8.objs.size = g5.objs.size + 1 := by rw [e8.1, e7.1, Heap.size_push]
  rw [size5] at z8 T8 size8
  refine wpAny_pure ⟨_, rfl, ?_⟩
  show Q (.ref g5.objs.size) _
  rw [size5]
  have iy' : ZItem s.heap n k2 y := by
    cases k2 with
    | lst l => obtain ⟨xs, hl, hx⟩ := iy; obtain ⟨ys, hm, hy⟩ := x2; have := isList_inj (s := { s with heap := g3 }) hl (hm.at fun o e => k3 _ D.l2z D.l2i1 D.l2TO o e); subst this; exact ⟨_, hm, hx⟩
    | tup l => obtain ⟨xs, hl, hx⟩ := iy; obtain ⟨ys, hm, hy⟩ := x2; have := isTuple_inj (s := { s with heap := g3 }) hl (hm.at fun o e => k3 _ D.l2z D.l2i1 D.l2TO o e); subst this; exact ⟨_, hm, hx⟩
    | str x t w => exact iy
  have ix' : ZItem s.heap n k1 x := by
    cases k1 with
    | lst l => obtain ⟨xs, hl, hx⟩ := ix; obtain ⟨ys, hm, hy⟩ := x1; have := isList_inj (s := { s with heap := g1 }) hl (hm.at fun o e => k1' _ D.l1z o e); subst this; exact ⟨_, hm, hx⟩
    | tup l => obtain ⟨xs, hl, hx⟩ := ix; obtain ⟨ys, hm, hy⟩ := x1; have := isTuple_inj (s := { s with heap := g1 }) hl (hm.at fun o e => k1' _ D.l1z o e); subst this; exact ⟨_, hm, hx⟩
    | str x t w => exact ix
  exact q x y g8 tk4 ix' iy' z8 (up _ _ D.TOz O5) (s5.at fun o e => up _ o D.i1z e) (t5.at fun o e => up _ o D.i2z e) T8 size8 fun c o c1 c2 c3 c4 e => up c o c1 (k5 c o c1 c2 c3 c4 e)
theorem zg_end {z TI TO i1 i2 : Addr} {k1 k2 : ZK} {n : Nat} {a b : Value} {Q : Fin → Shared → Prop} (hh : A.handled = none) (D : ZipApart z TI TO i1 i2 k1.base k2.base) (hz : IsZip s.heap z TI TO .none) (hI : IsPair s.heap TI (.ref i1) (.ref i2)) (hO : IsPair s.heap TO a b)
    (h1 : ZSt s.heap i1 n k1) (h2 : ZSt s.heap i2 n k2) (hend : ZEnd s.heap n k1 ∨ ((∃ u, ZItem s.heap n k1 u) ∧ ZEnd s.heap n k2))
    (q : ∀ h' e tk, (∀ c o, c ≠ z → c ≠ TO → c ≠ i1 → c ≠ i2 → s.heap.get? c = some o → h'.get? c = some o) → (∃ o, h'.get? e = some o ∧ o.cls = .type "StopIteration") → E (.ref e) { s with heap := h', toks := tk }) :
    wpAny (model prog w) A (Builtin.«zip.__next__» ⟨[.ref z], []⟩) Q E s := by
  show wpAny _ _ (field (.ref z) 2 >>= _) _ _ _
  refine wpAny_bind (wpAny_field hz rfl (x := .bool false) rfl ?_)
  show wpAny _ _ (field (.ref z) 3 >>= _) _ _ _
  refine wpAny_bind (wpAny_field hz rfl (x := .ref TI) rfl (wpAny_bind (wpAny_seqItems hI rfl ?_)))
  show wpAny _ _ (Builtin.SmallTypes.ownedTupleIsFree (.ref z) >>= _) _ _ _
  refine wpAny_bind ?_
  unfold Builtin.SmallTypes.ownedTupleIsFree
  refine wpAny_bind (wpAny_field hz rfl (x := .none) rfl (wpAny_pure ?_))
  simp only [if_true]
  refine wpAny_bind (wpAny_rule (wpAny_bind (wpAny_field hz rfl (x := .ref TO) rfl ?_)))
  refine wpAny_bind (wpAny_setField_rec hz (by simp) fun g1 z1 e1 => wpAny_bind ?_)
  replace z1 : IsZip g1 z TI TO .ellipsis := z1
  simp only [List.zipIdx_cons, List.zipIdx_nil, List.forIn_cons, List.forIn_nil]
  have k1' : ∀ c, c ≠ z → ∀ o, s.heap.get? c = some o → g1.get? c = some o := fun c hc o e => e1.extBut _ _ hc e
  refine wpAny_bind (wpAny_bind (wpAny_onRaise ?_))
  show wpAny _ _ (Builtin.SmallTypes.nextOf (.ref i1) >>= _) _ _ _
  rcases hend with hend | ⟨⟨u, x1⟩, hend⟩
  · refine wpAny_bind (zn_end hh (h1.at fun o e => k1' _ D.i1z o e) (hend.at fun o e => k1' _ D.l1z o e) fun g2 e s2 he => ?_)
    obtain ⟨oe, hoe, hce⟩ := he
    have z2 : IsZip g2 z TI TO .ellipsis := s2 _ _ D.i1z.symm z1
    have apart : e ≠ z := fun x => by subst x; rw [z2] at hoe; cases hoe; simp at hce
    exact wpAny_setField_rec z2 (by simp) fun g3 _ s3 => q g3 e s.toks (fun c o c1 _ c3 _ x => s3.extBut _ _ c1 (s2 _ _ c3 (k1' c c1 o x))) ⟨oe, s3.extBut _ _ apart hoe, hce⟩
  · refine wpAny_bind (zn_item (h1.at fun o e => k1' _ D.i1z o e) (x1.at fun o e => k1' _ D.l1z o e) fun x g2 tk2 ix s2 e2 => wpAny_pure ?_)
    replace e2 : Heap.SameBut i1 g1 g2 := e2
    have O2 : IsPair g2 TO a b := e2.extBut _ _ D.TOi1 (k1' _ D.TOz _ hO)
    refine wpAny_bind (wpAny_seqItems O2 rfl (wpAny_bind (wpAny_updateSeq_pair O2 fun g3 O3 e3 => ?_)))
    replace e3 : Heap.SameBut TO g2 g3 := e3
    refine wpAny_bind (wpAny_letGo (wpAny_pure (wpAny_bind (wpAny_bind (wpAny_onRaise ?_)))))
    show wpAny _ _ (Builtin.SmallTypes.nextOf (.ref i2) >>= _) _ _ _
    have k3 : ∀ c, c ≠ z → c ≠ i1 → c ≠ TO → ∀ o, s.heap.get? c = some o → g3.get? c = some o := fun c c1 c2 c3 o e => e3.extBut _ _ c3 (e2.extBut _ _ c2 (k1' c c1 o e))
    refine wpAny_bind (zn_end hh (h2.at fun o e => k3 _ D.i2z D.i12.symm D.TOi2.symm o e) (hend.at fun o e => k3 _ D.l2z D.l2i1 D.l2TO o e) fun g4 e s4 he => ?_)
    obtain ⟨oe, hoe, hce⟩ := he
    have z4 : IsZip g4 z TI TO .ellipsis := s4 _ _ D.i2z.symm (e3.extBut _ _ D.TOz.symm (e2.extBut _ _ D.i1z.symm z1))
    have apart : e ≠ z := fun x => by subst x; rw [z4] at hoe; cases hoe; simp at hce
    exact wpAny_setField_rec z4 (by simp) fun g5 _ s5 => q g5 e tk2 (fun c o c1 c2 c3 c4 x => s5.extBut _ _ c1 (s4 _ _ c4 (k3 c c1 c3 c2 o x))) ⟨oe, s5.extBut _ _ apart hoe, hce⟩
theorem zg_next {z TI TO i1 i2 : Addr} {k1 k2 : ZK} {n : Nat} {a b u0 v0 : Value} {Q : Option Value → Shared → Prop} (D : ZipApart z TI TO i1 i2 k1.base k2.base) (hz : IsZip s.heap z TI TO .none) (hI : IsPair s.heap TI (.ref i1) (.ref i2)) (hO : IsPair s.heap TO a b)
    (h1 : ZSt s.heap i1 n k1) (h2 : ZSt s.heap i2 n k2) (x1 : ZItem s.heap n k1 u0) (x2 : ZItem s.heap n k2 v0)
    (q : ∀ x y h' tk, ZItem s.heap n k1 x → ZItem s.heap n k2 y → IsZip h' z TI TO (rawInt s.heap.objs.size) → IsPair h' TO x y → ZSt h' i1 (n + 1) k1 → ZSt h' i2 (n + 1) k2 → IsPair h' s.heap.objs.size x y → h'.objs.size = s.heap.objs.size + 1 →
      (∀ c o, c ≠ z → c ≠ TO → c ≠ i1 → c ≠ i2 → s.heap.get? c = some o → h'.get? c = some o) → Q (some (.ref s.heap.objs.size)) { s with heap := h', toks := tk }) : wpAny (model prog w) A (pyNext (.ref z)) Q E s := by
  have ty : s.TypeIs (.ref z) "zip" := ⟨_, hz, rfl⟩
  unfold pyNext
  refine wpAny_bind (wpAny_attempt (wpAny_callSpecial?_slot (name := Str.ofString "__next__") ty F.slot_zip_next (wpAny_call_entry F.slot_zip_next ty F.entry_zip_next ?_ (F.args_zip_next_1 _))))
  exact zg_item D hz hI hO h1 h2 x1 x2 fun x y h' tk c1 c2 c3 c4 c5 c6 c7 c8 c9 => wpAny_pure (q x y h' tk c1 c2 c3 c4 c5 c6 c7 c8 c9)
theorem zg_stop {z TI TO i1 i2 : Addr} {k1 k2 : ZK} {n : Nat} {a b : Value} {Q : Option Value → Shared → Prop} (hh : A.handled = none) (D : ZipApart z TI TO i1 i2 k1.base k2.base) (hz : IsZip s.heap z TI TO .none) (hI : IsPair s.heap TI (.ref i1) (.ref i2)) (hO : IsPair s.heap TO a b)
    (h1 : ZSt s.heap i1 n k1) (h2 : ZSt s.heap i2 n k2) (hend : ZEnd s.heap n k1 ∨ ((∃ u, ZItem s.heap n k1 u) ∧ ZEnd s.heap n k2))
    (q : ∀ h' tk, (∀ c o, c ≠ z → c ≠ TO → c ≠ i1 → c ≠ i2 → s.heap.get? c = some o → h'.get? c = some o) → Q none { s with heap := h', toks := tk }) : wpAny (model prog w) A (pyNext (.ref z)) Q E s := by
  have ty : s.TypeIs (.ref z) "zip" := ⟨_, hz, rfl⟩
  unfold pyNext
  refine wpAny_bind (wpAny_attempt (wpAny_callSpecial?_slot (name := Str.ofString "__next__") ty F.slot_zip_next (wpAny_call_entry F.slot_zip_next ty F.entry_zip_next ?_ (F.args_zip_next_1 _))))
  refine zg_end hh D hz hI hO h1 h2 hend fun h' e tk hk he => ?_
  obtain ⟨o, ho, hc⟩ := he
  exact wpAny_bind (wpAny_isInstance (T := "StopIteration") (b := true) ⟨o, ho, hc⟩ isSubtype_stop (wpAny_pure (q h' tk hk)))
end
/-- the value that is walked, the object that walks it -/
def ZK.val : ZK → Value
  | .lst l => .ref l | .tup l => .ref l | .str x t _ => .str x t
def ZK.obj : ZK → Obj
  | .lst l => { cls := .type "list_iterator", data := .fields #[.ref l, .int 0 0] }
  | .tup l => { cls := .type "tuple_iterator", data := .fields #[.ref l, .int 0 0] }
  | .str x t w => { cls := .type (if w then "str_iterator" else "str_ascii_iterator"), data := .fields #[.str x t, .int 0 0] }
/-- it can be walked -/
def ZOk (h : Heap) : ZK → Prop
  | .lst l => ∃ xs, h.IsList l xs
  | .tup l => ∃ xs, h.IsTuple l xs
  | .str x _ w => x.cps.all (· < 128) = !w
theorem ZOk.at {h h' : Heap} {k : ZK} (z : ZOk h k) (e : ∀ o, h.get? k.base = some o → h'.get? k.base = some o) : ZOk h' k := by
  cases k with
  | lst l => obtain ⟨xs, ⟨o, ho, r⟩⟩ := z; exact ⟨xs, ⟨o, e o ho, r⟩⟩
  | tup l => obtain ⟨xs, ⟨o, ho, r⟩⟩ := z; exact ⟨xs, ⟨o, e o ho, r⟩⟩
  | str x t w => exact z
theorem z_iter {prog : Program} {w : World} {A : Around} {E : Value → Shared → Prop} {s : Shared} {k : ZK} {Q : Value → Shared → Prop} (z : ZOk s.heap k) (q : Q (.ref s.heap.objs.size) { s with heap := s.heap.push k.obj }) : wpAny (model prog w) A (pyIter k.val) Q E s := by
  cases k with
  | lst l => obtain ⟨xs, hl⟩ := z; exact wpAny_pyIter_list hl q
  | tup l => obtain ⟨xs, hl⟩ := z; exact wpAny_pyIter_tuple hl q
  | str x t wd =>
    have z : x.cps.all (· < 128) = !wd := z
    cases wd with
    | false => exact wpAny_pyIter_ascii z q
    | true => exact wpAny_pyIter_wide z q
theorem z_start (h : Heap) (k : ZK) : ZSt (h.push k.obj) h.objs.size 0 k := by
  cases k with
  | lst l => exact ⟨_, Heap.get?_push_size _ rfl, rfl, rfl⟩
  | tup l => exact ⟨_, Heap.get?_push_size _ rfl, rfl, rfl⟩
  | str x t w => exact ⟨_, Heap.get?_push_size _ rfl, rfl, rfl⟩
def zg1 (h : Heap) (k1 : ZK) : Heap := h.push k1.obj
def zg2 (h : Heap) (k1 k2 : ZK) : Heap := (zg1 h k1).push k2.obj
def zg3 (h : Heap) (k1 k2 : ZK) : Heap := (zg2 h k1 k2).push { cls := .type "tuple", data := .seq #[.ref h.objs.size, .ref (zg1 h k1).objs.size] }
def zg4 (h : Heap) (k1 k2 : ZK) : Heap := (zg3 h k1 k2).push { cls := .type "tuple", data := .seq #[.none, .none] }
def zg5 (h : Heap) (k1 k2 : ZK) : Heap := (zg4 h k1 k2).push { cls := .type "zip", data := .fields #[.none, .bool false, .bool false, .ref (zg2 h k1 k2).objs.size, .ref (zg3 h k1 k2).objs.size] }
theorem zg_made (k1 k2 : ZK) : Meets (Builtin.«zip.__new__» ⟨[.type "zip", k1.val, k2.val], []⟩) (fun _ R s => ZOk s.heap k1 ∧ ZOk (zg1 s.heap k1) k2 ∧ R (.ok (.ret (.ref (zg4 s.heap k1 k2).objs.size))) { s with heap := zg5 s.heap k1 k2 }) :=
  .of_wp fun prog w A R s h => by
    obtain ⟨hp, g, d, tk, os⟩ := s
    obtain ⟨o1, o2, h⟩ := h
    have hsub := sub_zip
    have p1 : ∀ {A : Around} {E : Value → Shared → Prop} {Q : Value → Shared → Prop}, Q (.ref hp.objs.size) ⟨hp.push k1.obj, g, d, tk, os⟩ → wpAny (model prog w) A (pyIter k1.val) Q E ⟨hp, g, d, tk, os⟩ := fun q => z_iter (s := ⟨hp, g, d, tk, os⟩) o1 q
    have p2 : ∀ {A : Around} {E : Value → Shared → Prop} {Q : Value → Shared → Prop}, Q (.ref (hp.push k1.obj).objs.size) ⟨(hp.push k1.obj).push k2.obj, g, d, tk, os⟩ → wpAny (model prog w) A (pyIter k2.val) Q E ⟨hp.push k1.obj, g, d, tk, os⟩ := fun q => z_iter (s := ⟨hp.push k1.obj, g, d, tk, os⟩) o2 q
    generalize k1.val = v1 at p1 ⊢
    generalize k2.val = v2 at p2 ⊢
    wp_walk using p1, p2
    exact ⟨_, rfl, h⟩
section
variable {prog : Program} {w : World} {A : Around} {E : Value → Shared → Prop} {s : Shared}
theorem zg_call {k1 k2 : ZK} {Q : Value → Shared → Prop} (o1 : ZOk s.heap k1) (o2 : ZOk s.heap k2)
    (q : ∀ h', IsZip h' (s.heap.objs.size + 4) (s.heap.objs.size + 2) (s.heap.objs.size + 3) .none → IsPair h' (s.heap.objs.size + 2) (.ref s.heap.objs.size) (.ref (s.heap.objs.size + 1)) → IsPair h' (s.heap.objs.size + 3) .none .none →
      ZSt h' s.heap.objs.size 0 k1 → ZSt h' (s.heap.objs.size + 1) 0 k2 → (∀ c o, s.heap.get? c = some o → h'.get? c = some o) → Q (.ref (s.heap.objs.size + 4)) { s with heap := h' }) : wpAny (model prog w) A (call (.type "zip") [k1.val, k2.val]) Q E s := by
  have up1 : ∀ c o, s.heap.get? c = some o → (zg1 s.heap k1).get? c = some o := fun c o e => Heap.get?_push_of_some _ e
  refine callType_new F.called_zip (by decide) (F.typeCall_zip_2 _ _) (F.newCall_zip_2 _ _) (fun obj => F.args_object_init_3 obj _ _) F.entry_zip_new (zg_made k1 k2) ⟨o1, o2.at fun o e => up1 _ o e, ?_⟩
  have n1 : (zg1 s.heap k1).objs.size = s.heap.objs.size + 1 := Heap.size_push ..
  have n2 : (zg2 s.heap k1 k2).objs.size = s.heap.objs.size + 2 := by unfold zg2; rw [Heap.size_push, n1]
  have n3 : (zg3 s.heap k1 k2).objs.size = s.heap.objs.size + 3 := by unfold zg3; rw [Heap.size_push, n2]
  have n4 : (zg4 s.heap k1 k2).objs.size = s.heap.objs.size + 4 := by unfold zg4; rw [Heap.size_push, n3]
  have up2 : ∀ c o, (zg1 s.heap k1).get? c = some o → (zg2 s.heap k1 k2).get? c = some o := fun c o e => Heap.get?_push_of_some _ e
  have up3 : ∀ c o, (zg2 s.heap k1 k2).get? c = some o → (zg3 s.heap k1 k2).get? c = some o := fun c o e => Heap.get?_push_of_some _ e
  have up4 : ∀ c o, (zg3 s.heap k1 k2).get? c = some o → (zg4 s.heap k1 k2).get? c = some o := fun c o e => Heap.get?_push_of_some _ e
  have up5 : ∀ c o, (zg4 s.heap k1 k2).get? c = some o → (zg5 s.heap k1 k2).get? c = some o := fun c o e => Heap.get?_push_of_some _ e
  have g5 : (zg5 s.heap k1 k2).get? (zg4 s.heap k1 k2).objs.size = some { cls := .type "zip", data := .fields #[.none, .bool false, .bool false, .ref (zg2 s.heap k1 k2).objs.size, .ref (zg3 s.heap k1 k2).objs.size] } := Heap.get?_push_size _ rfl
  have g4 : (zg5 s.heap k1 k2).get? (zg3 s.heap k1 k2).objs.size = some { cls := .type "tuple", data := .seq #[.none, .none] } := up5 _ _ (Heap.get?_push_size _ rfl)
  have g3 : (zg5 s.heap k1 k2).get? (zg2 s.heap k1 k2).objs.size = some { cls := .type "tuple", data := .seq #[.ref s.heap.objs.size, .ref (zg1 s.heap k1).objs.size] } := up5 _ _ (up4 _ _ (Heap.get?_push_size _ rfl))
  have t2 : ZSt (zg5 s.heap k1 k2) (zg1 s.heap k1).objs.size 0 k2 := (z_start (zg1 s.heap k1) k2).at fun o e => up5 _ _ (up4 _ _ (up3 _ _ e))
  have t1 : ZSt (zg5 s.heap k1 k2) s.heap.objs.size 0 k1 := (z_start s.heap k1).at fun o e => up5 _ _ (up4 _ _ (up3 _ _ (up2 _ _ e)))
  show _ ∧ _
  rw [n2, n3, n4] at g5
  rw [n1, n2] at g3
  rw [n3] at g4
  rw [n1] at t2
  rw [n4]
  exact ⟨⟨_, g5, rfl⟩, q _ g5 g3 g4 t1 t2 fun c o e => up5 _ _ (up4 _ _ (up3 _ _ (up2 _ _ (up1 _ _ e))))⟩
end
/-- the n-th item, in the hand layer's heap -/
def vItem (K : PySem.W.Frag) (H : Hp) (n : Nat) : ZK → V → Prop
  | .lst l, v => ∃ xs, SqL K H l xs ∧ xs[n]? = some v
  | .tup l, v => ∃ xs, SqT K H l xs ∧ xs[n]? = some v
  | .str x _ _, v => ∃ c, x.cps[n]? = some c ∧ v = .str ⟨#[c]⟩
def vEnd (K : PySem.W.Frag) (H : Hp) (n : Nat) : ZK → Prop
  | .lst l => ∃ xs, SqL K H l xs ∧ xs.length ≤ n
  | .tup l => ∃ xs, SqT K H l xs ∧ xs.length ≤ n
  | .str x _ _ => x.cps.size ≤ n
section
variable {X : Cx} {pins : List (Addr × Obj)} {σ : L2.St} {H : Hp} {s : Shared} {n : Nat} {k : ZK} {v : V}
theorem v_item (I : Inv X pins σ H s) (h : vItem X.K H n k v) : (∃ u, ZItem s.heap n k u) ∧ ∀ u, ZItem s.heap n k u → RelV v u := by
  cases k with
  | lst l =>
    obtain ⟨xs, hq, hx⟩ := h
    obtain ⟨its, rv, p, hz⟩ := I.list hq
    obtain ⟨u, hu, ru⟩ := rv.get hx
    refine ⟨⟨u, _, p.isList, by simpa using hu⟩, fun u' ⟨ys, hm, hy⟩ => ?_⟩
    have := isList_inj (s := s) hm p.isList
    subst this
    have e : its[n]? = some u' := by simpa using hy
    rw [hu] at e; cases e
    exact ru
  | tup l =>
    obtain ⟨xs, hq, hx⟩ := h
    obtain ⟨its, rv, p, hz⟩ := I.tuple hq
    obtain ⟨u, hu, ru⟩ := rv.get hx
    refine ⟨⟨u, _, p, by simpa using hu⟩, fun u' ⟨ys, hm, hy⟩ => ?_⟩
    have := isTuple_inj (s := s) hm p
    subst this
    have e : its[n]? = some u' := by simpa using hy
    rw [hu] at e; cases e
    exact ru
  | str x t w =>
    obtain ⟨c, hx, rfl⟩ := h
    refine ⟨⟨_, c, 0, hx, rfl⟩, fun u ⟨c', t', hx', e⟩ => ?_⟩
    rw [hx] at hx'; cases hx'
    exact ⟨t', e⟩
theorem v_end (I : Inv X pins σ H s) (h : vEnd X.K H n k) : ZEnd s.heap n k := by
  cases k with
  | lst l =>
    obtain ⟨xs, hq, hx⟩ := h
    obtain ⟨its, rv, p, hz⟩ := I.list hq
    have := rv.length
    exact ⟨_, p.isList, by simp; omega⟩
  | tup l =>
    obtain ⟨xs, hq, hx⟩ := h
    obtain ⟨its, rv, p, hz⟩ := I.tuple hq
    have := rv.length
    exact ⟨_, p, by simp; omega⟩
  | str x t w => exact Array.getElem?_eq_none h
end
def Jz (K : PySem.W.Frag) (k1 k2 : ZK) : L2.It := ⟨fun i H => ∃ x y, vItem K H i k1 x ∧ vItem K H i k2 y, fun i H v H' => ∃ T x y, v = .ref T ∧ H T = none ∧ H' = upd H T (.tup [x, y]) ∧ (∀ x', vItem K H i k1 x' → x' = x) ∧ (∀ y', vItem K H i k2 y' → y' = y), fun i H => vEnd K H i k1 ∨ ((∃ x, vItem K H i k1 x) ∧ vEnd K H i k2)⟩
theorem zg_turn {P : Program} {w : World} {K : PySem.W.Frag} {elts : List Expr} {kk : Nat} {tpos : Pos} {k1 k2 : ZK} {z TI TO i1 i2 : Addr} (D : ZipApart z TI TO i1 i2 k1.base k2.base) :
    Turn P w K (.Tuple elts kk tpos) (Jz K k1 k2) [z, TI, TO, i1, i2] z (fun i h => IsZip h z TI TO .none ∧ IsPair h TI (.ref i1) (.ref i2) ∧ (∃ x y, IsPair h TO x y) ∧ ZSt h i1 i k1 ∧ ZSt h i2 i k2) where
  mem := by simp
  obj := fun i h st c hc => by
    obtain ⟨hz, hI, ⟨x, y, hO⟩, s1, s2⟩ := st
    have five : c = z ∨ c = TI ∨ c = TO ∨ c = i1 ∨ c = i2 := by simpa using hc
    rcases five with rfl | rfl | rfl | rfl | rfl
    · exact ⟨_, hz, fun v q => nomatch q⟩
    · exact ⟨_, hI, fun v q => nomatch q⟩
    · exact ⟨_, hO, fun v q => nomatch q⟩
    · exact s1.has
    · exact s2.has
  keep := fun i h h' st k => by
    obtain ⟨hz, hI, ⟨x, y, hO⟩, s1, s2⟩ := st
    exact ⟨k z (by simp) _ hz, k TI (by simp) _ hI, ⟨x, y, k TO (by simp) _ hO⟩, s1.at fun o q => k i1 (by simp) o q, s2.at fun o q => k i2 (by simp) o q⟩
  item := by
    intro X hP hw hK hc i pins s σ H E I hf st hg
    subst hP hw hK
    obtain ⟨hz, hI, ⟨a0, b0, hO⟩, s1, s2⟩ := st
    obtain ⟨x, y, vx, vy⟩ := hg
    obtain ⟨⟨u0, x1⟩, rx⟩ := v_item I vx
    obtain ⟨⟨v0, x2⟩, ry⟩ := v_item I vy
    have lt : z < s.heap.objs.size := Heap.lt_size hz
    refine zg_next D hz hI hO s1 s2 x1 x2 fun u v h' tk iu iv z' O' t1 t2 hT hsz hk => ⟨_, rfl, wpAny_letOwnedTupleGo_zip (s := { s with heap := h', toks := tk }) z' fun h'' z'' sb => ?_⟩
    have rest : ∀ c o, c ≠ z → h'.get? c = some o → h''.get? c = some o := fun c o hcz e => (sb.2 c hcz).trans e
    have hT2 := rest _ _ (Nat.ne_of_gt lt) hT
    have new : ObjOk X.prog X.w (upd H s.heap.objs.size (.tup [x, y])) h'' s.heap.objs.size (.tup [x, y]) := ⟨by show 2 ≤ sizeLine; decide, [u, v], .cons (rx u iu) (.cons (ry v iv) .nil), ⟨_, hT2, rfl, _, rfl⟩⟩
    have I1 : Inv X pins σ (upd H s.heap.objs.size (.tup [x, y])) { s with heap := h'', toks := tk } := I.turnedNew (ch := [z, TI, TO, i1, i2]) (fun c o hb q => rest c o (fun q' => hb (by simp [q'])) (hk c o (fun q' => hb (by simp [q'])) (fun q' => hb (by simp [q'])) (fun q' => hb (by simp [q'])) (fun q' => hb (by simp [q'])) q)) hf (Nat.le_refl _) new
    have only : ∀ {k : ZK} {x x' : V}, vItem X.K H i k x → vItem X.K H i k x' → x' = x := fun {k x x'} a b => by
      cases k with
      | lst l => obtain ⟨xs, h1, e1⟩ := a; obtain ⟨ys, h2, e2⟩ := b; rw [I.list_inj h2 h1, e1] at e2; exact (Option.some.inj e2).symm
      | tup l => obtain ⟨xs, h1, e1⟩ := a; obtain ⟨ys, h2, e2⟩ := b; rw [I.tuple_inj h2 h1, e1] at e2; exact (Option.some.inj e2).symm
      | str x t w => obtain ⟨c, h1, e1⟩ := a; obtain ⟨c', h2, e2⟩ := b; rw [h1] at h2; cases h2; rw [e1, e2]
    refine ⟨.ref s.heap.objs.size, _, I1, rfl, ⟨_, x, y, rfl, I.hok.fresh (Nat.le_refl _), rfl, fun x' h => only vx h, fun y' h => only vy h⟩, ⟨z'', ?_, ⟨u, v, ?_⟩, ?_, ?_⟩, fun c hcm => ?_⟩
    · exact rest _ _ D.TIz (hk _ _ D.TIz D.TITO D.TIi1 D.TIi2 hI)
    · exact rest _ _ D.TOz O'
    · exact t1.at fun o q => rest _ _ D.i1z q
    · exact t2.at fun o q => rest _ _ D.i2z q
    · have lt2 : c < s.heap.objs.size := by
        have five : c = z ∨ c = TI ∨ c = TO ∨ c = i1 ∨ c = i2 := by simpa using hcm
        rcases five with rfl | rfl | rfl | rfl | rfl
        · exact lt
        · exact Heap.lt_size hI
        · exact Heap.lt_size hO
        · obtain ⟨_, e1, _⟩ := s1.has; exact Heap.lt_size e1
        · obtain ⟨_, e2, _⟩ := s2.has; exact Heap.lt_size e2
      rw [upd_ne (Nat.ne_of_lt lt2)]
      exact (hf c hcm).1
  done := by
    intro X hP hw hK hc i pins s σ H E I hf st hg
    subst hP hw hK
    obtain ⟨hz, hI, ⟨a0, b0, hO⟩, s1, s2⟩ := st
    have ends : ZEnd s.heap i k1 ∨ ((∃ u, ZItem s.heap i k1 u) ∧ ZEnd s.heap i k2) := by
      rcases hg with h | ⟨⟨x, h1⟩, h2⟩
      · exact .inl (v_end I h)
      · exact .inr ⟨(v_item I h1).1, v_end I h2⟩
    exact zg_stop (I.ok.hd hc) D hz hI hO s1 s2 ends fun h' tk hk => ⟨rfl, I.turnedL (ch := [z, TI, TO, i1, i2]) (fun c o hb q => hk c o (fun q' => hb (by simp [q'])) (fun q' => hb (by simp [q'])) (fun q' => hb (by simp [q'])) (fun q' => hb (by simp [q'])) q) hf⟩
  self := fun A i s Q E st h => wpAny_pyIter_zip st.1 h
/-- a zip just made, walked -/
theorem zg_walk {X : Cx} {pins : List (Addr × Obj)} {σ : L2.St} {H : Hp} {s : Shared} {elts : List Expr} {kk : Nat} {tpos : Pos} {R : L2.It → Hp → Prop} {k1 k2 : ZK} (I : Inv X pins σ H s) (o1 : ZOk s.heap k1) (o2 : ZOk s.heap k2) (b1 : k1.base < s.heap.objs.size) (b2 : k2.base < s.heap.objs.size) (q : R (Jz X.K k1 k2) H) :
    wpAny (model X.prog X.w) X.A (call (.type "zip") [k1.val, k2.val]) (fun v s1 => wpAny (model X.prog X.w) X.A (pyIter v) (PIE X pins σ (.Tuple elts kk tpos) R) X.xe s1) X.xe s := by
  refine zg_call o1 o2 fun h' hz hI hO t1 t2 hk => wpAny_pyIter_zip hz ?_
  have I2 : Inv X pins σ H { s with heap := h' } := I.kept (t' := s.toks) hk
  refine ⟨s.heap.objs.size + 4, [s.heap.objs.size + 4, s.heap.objs.size + 2, s.heap.objs.size + 3, s.heap.objs.size, s.heap.objs.size + 1], _, _, H, rfl, I2, zg_turn (PySem.W.ktu_apart s.heap.objs.size k1.base k2.base b1 b2), ⟨hz, hI, ⟨_, _, hO⟩, t1, t2⟩, fun c hcm => ?_, q⟩
  have le : s.heap.objs.size ≤ c := by
    have five : c = s.heap.objs.size + 4 ∨ c = s.heap.objs.size + 2 ∨ c = s.heap.objs.size + 3 ∨ c = s.heap.objs.size ∨ c = s.heap.objs.size + 1 := by simpa using hcm
    rcases five with rfl | rfl | rfl | rfl | rfl <;> omega
  exact I.fpOk le (I.hok.fresh le)
end EvS
set_option Elab.async false
set_option linter.all false
set_option maxRecDepth 100000
set_option maxHeartbeats 1000000
/-! EvO: what a for, a comprehension walks. -/
namespace EvS
open PySem PySem.Spec PyProof.Rows L2

/-- the evaluator's items and those of the heap, from (H0, ι0) on -/
def SrcZ (K : PySem.W.Frag) (cls : Nat → Option Addr) (H0 : Hp) (ι0 : List Addr) (src : Ev.Src) (k : ZK) : Prop :=
  ∀ (i : Nat) (H' : Hp) (ι' : List Addr) (h' : Ev.Heap), Kp H0 H' → Pre ι0 ι' → Rep K cls H' ι' h' →
    (∀ x, src.nxt h' i = some (some x) → ∃ v, vItem K H' i k v ∧ RV K H' ι' x v) ∧ (src.nxt h' i = some none → vEnd K H' i k)
structure SrcOk (K : PySem.W.Frag) (cls : Nat → Option Addr) (H0 : Hp) (ι0 : List Addr) (src : Ev.Src) (J : L2.It) : Prop where
  go : ∀ (i : Nat) (H' : Hp) (ι' : List Addr) (h' : Ev.Heap) (x : Ev.D), Kp H0 H' → Pre ι0 ι' → Rep K cls H' ι' h' → src.nxt h' i = some (some x) →
    J.go i H' ∧ ∀ y H2, J.yld i H' y H2 → Kp H' H2 ∧ Rep K cls H2 ι' h' ∧ RV K H2 ι' x y
  stop : ∀ (i : Nat) (H' : Hp) (ι' : List Addr) (h' : Ev.Heap), Kp H0 H' → Pre ι0 ι' → Rep K cls H' ι' h' → src.nxt h' i = some none → J.stop i H'
/-- how one thing is walked -/
def ZK.it (K : PySem.W.Frag) : ZK → L2.It
  | .lst l => Itl K l | .tup l => Itt K l | .str x _ _ => Its x
section
variable {K : PySem.W.Frag} {cls : Nat → Option Addr} {H0 : Hp} {ι0 : List Addr} {src : Ev.Src}
theorem SrcZ.one {k : ZK} (z : SrcZ K cls H0 ι0 src k) : SrcOk K cls H0 ι0 src (k.it K) := by
  refine ⟨fun i H' ι' h' x kp pr R e => ?_, fun i H' ι' h' kp pr R e => ?_⟩
  · obtain ⟨v, vi, rv⟩ := (z i H' ι' h' kp pr R).1 x e
    cases k with
    | lst l =>
      obtain ⟨xs, q, hx⟩ := vi
      exact ⟨⟨xs, v, q, hx⟩, fun y H2 ⟨e1, e2⟩ => by subst e1; have := e2 xs q; rw [hx] at this; cases this; exact ⟨.refl _, R, rv⟩⟩
    | tup l =>
      obtain ⟨xs, q, hx⟩ := vi
      exact ⟨⟨xs, v, q, hx⟩, fun y H2 ⟨e1, e2⟩ => by subst e1; have := e2 xs q; rw [hx] at this; cases this; exact ⟨.refl _, R, rv⟩⟩
    | str s t w =>
      obtain ⟨c, hx, ev⟩ := vi
      exact ⟨(Array.getElem?_eq_some_iff.mp hx).1, fun y H2 ⟨e1, c', h2, e2⟩ => by subst e1; rw [hx] at h2; cases h2; rw [e2, ← ev]; exact ⟨.refl _, R, rv⟩⟩
  · have := (z i H' ι' h' kp pr R).2 e
    cases k with
    | lst l => exact this
    | tup l => exact this
    | str s t w => exact this
theorem SrcZ.two {s1 s2 : Ev.Src} {k1 k2 : ZK} (a : SrcZ K cls H0 ι0 s1 k1) (b : SrcZ K cls H0 ι0 s2 k2) : SrcOk K cls H0 ι0 (.zip s1 s2) (Jz K k1 k2) := by
  refine ⟨fun i H' ι' h' x kp pr R e => ?_, fun i H' ι' h' kp pr R e => ?_⟩
  · unfold Ev.Src.nxt at e
    split at e
    · rename_i x1 y1 e1 e2
      cases e
      obtain ⟨v, vi, rv⟩ := (a i H' ι' h' kp pr R).1 _ e1
      obtain ⟨u, ui, ru⟩ := (b i H' ι' h' kp pr R).1 _ e2
      refine ⟨⟨v, u, vi, ui⟩, fun y H2 ⟨T, x', y', ey, hT, eH, f1, f2⟩ => ?_⟩
      subst ey eH
      have g1 := f1 v vi
      have g2 := f2 u ui
      subst g1 g2
      exact ⟨.fresh hT, R.free hT, .tup (.of upd_same) (.cons (rv.mono (.fresh hT) (.refl _)) (.cons (ru.mono (.fresh hT) (.refl _)) .nil))⟩
    · cases e
    · cases e
    · cases e
  · unfold Ev.Src.nxt at e
    split at e
    · cases e
    · rename_i q1 q2
      exact .inl ((a i H' ι' h' kp pr R).2 q1)
    · rename_i x1 q1 q2
      obtain ⟨v, vi, _⟩ := (a i H' ι' h' kp pr R).1 _ q1
      exact .inr ⟨⟨v, vi⟩, (b i H' ι' h' kp pr R).2 q2⟩
    · cases e
end
section
variable {X : Cx} {cls : Nat → Option Addr} {σ : L2.St} {H : Hp} {ι : List Addr} {h : Ev.Heap} {pins : List (Addr × Obj)} {s : Shared}
/-- what can be walked, and how -/
theorem iter_kind {x : Ev.D} {v : V} {u : Value} {src : Ev.Src} (I : Inv X pins σ H s) (R : Rep X.K cls H ι h) (r : RV X.K H ι x v) (ru : RelV v u) (e : Ev.ofIter x h = some src) :
    ∃ k : ZK, u = k.val ∧ ZOk s.heap k ∧ k.base < s.heap.objs.size ∧ SrcZ X.K cls H ι src k := by
  unfold Ev.ofIter at e
  split at e
  · rename_i t
    cases e
    obtain ⟨rfl, hs⟩ := r.strv
    obtain ⟨tk, rfl⟩ := ru
    refine ⟨.str (sT t) tk (!(sT t).cps.all (· < 128)), rfl, by show _ = !(!_); rw [Bool.not_not], Nat.lt_of_le_of_lt (Nat.zero_le _) I.big, fun i H' ι' h' kp pr R' => ⟨fun x ex => ?_, fun ex => ?_⟩⟩
    · have ex : (t.map fun c => Ev.D.str [c])[i]? = some x := by simpa [Ev.Src.nxt] using ex
      rw [List.getElem?_map] at ex
      obtain ⟨c, hc, ec⟩ := Option.map_eq_some_iff.mp ex
      subst ec
      exact ⟨.str ⟨#[c]⟩, ⟨c, by simpa [sT] using hc, rfl⟩, one_ok c⟩
    · have ex : (t.map fun c => Ev.D.str [c])[i]? = none := by simpa [Ev.Src.nxt] using ex
      rw [List.getElem?_eq_none_iff, List.length_map] at ex
      show (sT t).cps.size ≤ i
      simpa [sT] using ex
  · rename_i xs
    cases e
    cases r with
    | @tup _ a vs q w =>
      cases ru
      obtain ⟨its, rv, p, hz⟩ := I.tuple q
      refine ⟨.tup a, rfl, ⟨_, p⟩, p.lt, fun i H' ι' h' kp pr R' => ⟨fun x ex => ?_, fun ex => ?_⟩⟩
      · have ex : xs[i]? = some x := by simpa [Ev.Src.nxt] using ex
        obtain ⟨v, hv, rv⟩ := (w.mono kp pr).get ex
        exact ⟨v, ⟨vs, kp.sqT q, hv⟩, rv⟩
      · have ex : xs[i]? = none := by simpa [Ev.Src.nxt] using ex
        rw [List.getElem?_eq_none_iff] at ex
        exact ⟨vs, kp.sqT q, by rw [w.length]; exact ex⟩
  · rename_i a
    have at_ : ∀ {xs : List Ev.D}, (h.get a = some (.lst xs) ∨ h.get a = some (.fro xs)) → src = .at a → ∃ k : ZK, u = k.val ∧ ZOk s.heap k ∧ k.base < s.heap.objs.size ∧ SrcZ X.K cls H ι src k := fun {xs} hx es => by
      subst es
      obtain ⟨p, vs, rfl, hp, q, w⟩ := R.seq r hx
      cases ru
      obtain ⟨its, rv, pl, hz⟩ := I.list q
      refine ⟨.lst p, rfl, ⟨_, pl.isList⟩, pl.lt, fun i H' ι' h' kp pr R' => ?_⟩
      have r' : RV X.K H' ι' (.ref a) (.ref p) := .ref (pr _ _ hp)
      have key : ∀ {ys : List Ev.D}, (h'.get a = some (.lst ys) ∨ h'.get a = some (.fro ys)) → ∃ ws, SqL X.K H' p ws ∧ RVs X.K H' ι' ys ws := fun hy => by
        obtain ⟨p', ws, ep, _, q', w'⟩ := R'.seq r' hy
        cases ep
        exact ⟨ws, q', w'⟩
      refine ⟨fun x ex => ?_, fun ex => ?_⟩
      · unfold Ev.Src.nxt at ex
        split at ex
        · rename_i ys hy
          obtain ⟨ws, q', w'⟩ := key (.inl hy)
          obtain ⟨v, hv, rv⟩ := w'.get (Option.some.inj ex)
          exact ⟨v, ⟨ws, q', hv⟩, rv⟩
        · rename_i ys hy
          obtain ⟨ws, q', w'⟩ := key (.inr hy)
          obtain ⟨v, hv, rv⟩ := w'.get (Option.some.inj ex)
          exact ⟨v, ⟨ws, q', hv⟩, rv⟩
        · cases ex
      · unfold Ev.Src.nxt at ex
        split at ex
        · rename_i ys hy
          obtain ⟨ws, q', w'⟩ := key (.inl hy)
          have := Option.some.inj ex
          rw [List.getElem?_eq_none_iff] at this
          exact ⟨ws, q', by rw [w'.length]; exact this⟩
        · rename_i ys hy
          obtain ⟨ws, q', w'⟩ := key (.inr hy)
          have := Option.some.inj ex
          rw [List.getElem?_eq_none_iff] at this
          exact ⟨ws, q', by rw [w'.length]; exact this⟩
        · cases ex
    split at e
    · rename_i xs hx; exact at_ (.inl hx) (Option.some.inj e).symm
    · rename_i xs hx; exact at_ (.inr hx) (Option.some.inj e).symm
    · cases e
  · cases e
/-- one thing walked -/
theorem pie_one {tg : Expr} {k : ZK} {RJ : L2.It → Hp → Prop} (I : Inv X pins σ H s) (ok : ZOk s.heap k) (q : RJ (k.it X.K) H) : wpAny (model X.prog X.w) X.A (pyIter k.val) (PIE X pins σ tg RJ) X.xe s := by
  refine z_iter ok ?_
  refine pi_one (tk := s.toks) I k.obj ?_ (show (match k with | .lst l => fun i (h : Heap) => h.IsListIter s.heap.objs.size l i | .tup l => fun i h => h.IsTupleIter s.heap.objs.size l i | .str x t w => fun i h => h.IsStrIter s.heap.objs.size (if w then "str_iterator" else "str_ascii_iterator") x t i) 0 (s.heap.push k.obj) from ?_) q
  · cases k with
    | lst l => exact turn_list l _
    | tup l => exact turn_tuple l _
    | str x t w => exact turn_str _ x t _ (by cases w <;> simp)
  · cases k with
    | lst l => exact ⟨_, Heap.get?_push_size _ rfl, rfl, rfl⟩
    | tup l => exact ⟨_, Heap.get?_push_size _ rfl, rfl, rfl⟩
    | str x t w => exact ⟨_, Heap.get?_push_size _ rfl, rfl, rfl⟩
theorem range_src (K : PySem.W.Frag) (H0 : Hp) (ι0 : List Addr) (lo : Int) (n : Nat) : SrcOk K cls H0 ι0 (.fix (Ev.upto n lo)) (Itr lo n) := by
  refine ⟨fun i H' ι' h' x kp pr R e => ?_, fun i H' ι' h' kp pr R e => ?_⟩
  · have e : (Ev.upto n lo)[i]? = some x := by simpa [Ev.Src.nxt] using e
    unfold Ev.upto at e
    rw [List.getElem?_map] at e
    obtain ⟨j, hj, ej⟩ := Option.map_eq_some_iff.mp e
    have hi : i < n := by
      have := (List.getElem?_eq_some_iff.mp hj).1
      simpa using this
    rw [List.getElem?_range hi] at hj
    cases hj
    subst ej
    exact ⟨hi, fun y H2 ⟨e1, e2⟩ => by subst e1 e2; exact ⟨.refl _, R, .int _⟩⟩
  · have e : (Ev.upto n lo)[i]? = none := by simpa [Ev.Src.nxt] using e
    rw [List.getElem?_eq_none_iff] at e
    show n ≤ i
    simpa [Ev.upto] using e
theorem enum_src {k : ZK} {l : Addr} {K : PySem.W.Frag} {H0 : Hp} {ι0 : List Addr} {src : Ev.Src} (z : SrcZ K cls H0 ι0 src (.lst l)) : SrcOk K cls H0 ι0 (.enum src) (Ite K l) := by
  refine ⟨fun i H' ι' h' x kp pr R e => ?_, fun i H' ι' h' kp pr R e => ?_⟩
  · unfold Ev.Src.nxt at e
    split at e
    · rename_i x1 e1
      cases e
      obtain ⟨v, ⟨xs, q, hx⟩, rv⟩ := (z i H' ι' h' kp pr R).1 _ e1
      refine ⟨⟨xs, v, q, hx⟩, fun y H2 ⟨T, y', ey, hT, eH, f⟩ => ?_⟩
      subst ey eH
      have := f xs q
      rw [hx] at this
      cases this
      exact ⟨.fresh hT, R.free hT, .tup (.of upd_same) (.cons (.int _) (.cons (rv.mono (.fresh hT) (.refl _)) .nil))⟩
    · cases e
    · cases e
  · unfold Ev.Src.nxt at e
    split at e
    · cases e
    · rename_i e1
      exact (z i H' ι' h' kp pr R).2 e1
    · cases e
end
end EvS
set_option Elab.async false
set_option linter.all false
set_option maxRecDepth 100000
set_option maxHeartbeats 1000000
/-! EvP: is the evaluator's text the program's text? -/
namespace EvS
open PySem PySem.Spec PyProof.Rows L2

/-- what a global name is -/
inductive Gt where
  | val (i : Nat) | fn (f : Ev.Fn) | rng | enm | zp | isi | setf | tbool
  deriving DecidableEq
/-- the place in the text: slots, the names' kinds, the scope whose cells may be stored (none: all), globals -/
structure Lx where
  N : List Str
  sc : Scope
  ow : Option Scope
  gl : List (Str × Gt)
  flds : List Ev.Nm
  /-- names of one-sign texts whose token is known -/
  tx : List (Str × Nat) := []
def okName (x : Str) : Bool := !(x == ("__debug__" : Str)) && !(x == ("__classdict__" : Str)) && !(x == ("__name__" : Str))
def Lx.kind (L : Lx) (x : Str) : Option NameKind := L.sc.names.lookup x
def Lx.loads (L : Lx) (i : Nat) (x : Str) : Bool := (L.N[i]? == some x) && okName x && (L.kind x == some .local || L.kind x == some .cell || L.kind x == some .free)
def Lx.stores (L : Lx) (i : Nat) (x : Str) : Bool := (L.N[i]? == some x) && okName x &&
  (L.kind x == some .local || (L.kind x == some .cell && (match L.ow with | none => true | some s => s.names.lookup x == some .cell)))
def Lx.glob (L : Lx) (x : Str) (t : Gt) : Bool := okName x && (L.kind x == some .globalImplicit) && (L.gl.lookup x == some t)
/-- within a comprehension -/
def Lx.inner (L : Lx) (scope : Scope) : Lx := { L with sc := relS scope L.sc, ow := some scope }
def constOk : Ev.D → Const → Bool
  | .non, .none => true
  | .bl b, .bool c => b == c
  | .int i, .int j => i == j
  | .str s, .str x => (x.cps.toList == s) && decide (s.length ≤ Ev.LINE)
  | _, _ => false
def noSup : Expr → Bool
  | .Call (.Name _ _) [] [] _ => false
  | _ => true
def notSet : Expr → Bool
  | .Set _ _ _ => false
  | _ => true
def notSlice : Expr → Bool
  | .Slice _ _ _ _ => false
  | _ => true
def isTup : Expr → Bool
  | .Tuple _ _ _ => true
  | _ => false
/-- a test that is read as a plain value -/
def plainT : Expr → Bool
  | .UnaryOp .Not _ _ => false
  | .BoolOp _ _ _ => false
  | .IfExp _ _ _ _ => false
  | .Compare _ _ _ _ => false
  | _ => true
def tyOf : Ev.Ty → Option Str
  | .int => some "int" | .bool => some "bool" | .str => some "str" | .tuple => some "tuple" | .list => some "list" | .cls _ => none

/-- the name of a type -/
def tyG : Ev.Ty → Gt
  | .int => .fn .int | .bool => .tbool | .str => .fn .str | .tuple => .fn .tuple | .list => .fn .list | .cls c => .fn (.cl c)
def kwNames (ks : List Keyword) : List Str := ks.filterMap (·.arg)
def boundK (n : Nat) : Bool := decide (n + 1 < 30)
/-- the method's place within a text -/
def lineOk (apos pos : Pos) : Bool := apos.endLine == pos.line
mutual
def cE (L : Lx) : Ev.E → Expr → Bool
  | .loc i, e => match e with
    | .Name x _ => L.loads i x
    | _ => false
  | .cst d, e => match e with
    | .Constant c _ _ => constOk d c
    | _ => false
  | .glb i, e => match e with
    | .Name x _ => L.glob x (.val i)
    | _ => false
  | .bin o a b, e => match e with
    | .BinOp l op r _ => (op == opO o) && cE L a l && cE L b r
    | _ => false
  | .neg a, e => match e with
    | .UnaryOp .USub x _ => cE L a x
    | _ => false
  | .not a, e => match e with
    | .UnaryOp .Not x _ => cE L a x
    | _ => false
  | .cmp o a b, e => match e with
    | .Compare l [op] [r] _ => (op == cO o) && notSet r && cE L a l && cE L b r
    | _ => false
  | .chain o p a b c, e => match e with
    | .Compare l [op, op'] [m, r] _ => (op == cO o) && (op' == cO p) && notSet r && cE L a l && cE L b m && cE L c r
    | _ => false
  | .and a b, e => match e with
    | .BoolOp .And (x :: y :: []) _ => cE L a x && cE L b y
    | .BoolOp .And (x :: y :: z :: r) _ => cE L a x && cAnd L b (y :: z :: r)
    | _ => false
  | .or a b, e => match e with
    | .BoolOp .Or (x :: y :: []) _ => cE L a x && cE L b y
    | .BoolOp .Or (x :: y :: z :: r) _ => cE L a x && cOr L b (y :: z :: r)
    | _ => false
  | .ite c a b, e => match e with
    | .IfExp t x y _ => cE L c t && cE L a x && cE L b y
    | _ => false
  | .idx a i, e => match e with
    | .Subscript v s _ => notSlice s && cE L a v && cE L i s
    | _ => false
  | .slc a lo hi, e => match e with
    | .Subscript v (.Slice l u none _) _ => cE L a v && cO' L lo l && cO' L hi u
    | _ => false
  | .fld a f, e => match e with
    | .Attribute o x _ => (x == nS f) && L.flds.contains f && noSup o && cE L a o
    | _ => false
  | .tup es, e => match e with
    | .Tuple xs _ _ => xs.all plainE && cEs L es xs
    | _ => false
  | .lst es, e => match e with
    | .List xs _ => xs.all plainE && cEs L es xs
    | _ => false
  | .dct es, e => match e with
    | .Dict ks vs _ => ks.all (·.isSome) && (ks.length == vs.length) && decide (ks.length ≤ 15) && cPs L es ks vs
    | _ => false
  | .comp e t it c own, x => match x with
    | .ListComp elt [⟨tg, iter, ifs, 0⟩] scope _ => blkC L.N L.sc scope (own.filterMap fun i => (L.N[i]?).map fun y => (y, i)) && (own.all fun i => (L.N[i]?).isSome) && cI L it tg iter && (t.slots.all fun i => own.contains i) && cT (L.inner scope) t tg && cE (L.inner scope) e elt && cC (L.inner scope) c ifs
    | _ => false
  | .call f es ks, e => match f with
    | .isinst t => (match e with
      | .Call (.Name x _) [a, .Name y _] [] _ => L.glob x .isi && plainE a && ks.isEmpty && L.glob y (tyG t) && cEs L es [a]
      | _ => false)
    | .lenset => (match e with
      | .Call (.Name x _) [.Call (.Name z _) [a] [] _] [] _ => L.glob x (.fn .len) && L.glob z .setf && plainE a && ks.isEmpty && cEs L es [a]
      | _ => false)
    | f => (match e with
      | .Call (.Name x _) args kws _ => L.glob x (.fn f) && args.all plainE && kws.all kwOk && (kwNames kws == ks.map nS) && cAK L es args kws
      | _ => false)
  | .meth o m es ks, e => match e with
    | .Call (.Attribute ob x apos) args kws pos => (x == nS m) && noSup ob && args.all plainE && kws.all kwOk && (kwNames kws == ks.map nS) && boundK (args.length + kws.length) && lineOk apos pos && cE L o ob && cAK L es args kws
    | _ => false
  | .repl o c t, e => match e with
    | .Call (.Attribute ob x apos) [a, .Constant (.str z) _ _] [] pos => (x == ("replace" : Str)) && noSup ob && lineOk apos pos && (z.cps.toList == t) && !(z == ⟨#[c]⟩) && cE L o ob && (match a with
        | .Constant (.str y) _ _ => y == ⟨#[c]⟩
        | .Name y _ => okName y && (L.kind y == some .globalImplicit) && (L.tx.lookup y == some c)
        | _ => false)
    | _ => false
def cAnd (L : Lx) : Ev.E → List Expr → Bool
  | .and a b, l => match l with
    | x :: y :: [] => cE L a x && cE L b y
    | x :: y :: z :: r => cE L a x && cAnd L b (y :: z :: r)
    | _ => false
  | _, _ => false
def cOr (L : Lx) : Ev.E → List Expr → Bool
  | .or a b, l => match l with
    | x :: y :: [] => cE L a x && cE L b y
    | x :: y :: z :: r => cE L a x && cOr L b (y :: z :: r)
    | _ => false
  | _, _ => false
/-- a slice's end -/
def cO' (L : Lx) : Ev.Eo → Option Expr → Bool
  | .no, e => match e with
    | none => true
    | some _ => false
  | .yes a, e => match e with
    | none => false
    | some x => cE L a x
/-- a comprehension's tests -/
def cC (L : Lx) : Ev.Eo → List Expr → Bool
  | .no, l => match l with
    | [] => true
    | _ => false
  | .yes a, l => match l with
    | [x] => cE L a x
    | _ => false
def cEs (L : Lx) : Ev.Es → List Expr → Bool
  | .nil, l => match l with
    | [] => true
    | _ => false
  | .cons e es, l => match l with
    | x :: r => cE L e x && cEs L es r
    | _ => false
/-- positional arguments, then the keywords' values -/
def cAK (L : Lx) : Ev.Es → List Expr → List Keyword → Bool
  | .nil, l, ks => match l, ks with
    | [], [] => true
    | _, _ => false
  | .cons e es, l, ks => match l, ks with
    | x :: r, ks => cE L e x && cAK L es r ks
    | [], ⟨_, v, _⟩ :: ks => cE L e v && cAK L es [] ks
    | _, _ => false
/-- a display's pairs -/
def cPs (L : Lx) : Ev.Es → List (Option Expr) → List Expr → Bool
  | .nil, ks, vs => match ks, vs with
    | [], [] => true
    | _, _ => false
  | .cons k es, ks, vs => match ks, vs with
    | some x :: ks, v :: vs => cE L k x && cPv L es v ks vs
    | _, _ => false
def cPv (L : Lx) : Ev.Es → Expr → List (Option Expr) → List Expr → Bool
  | .nil, _, _, _ => false
  | .cons e es, v, ks, vs => cE L e v && cPs L es ks vs
/-- what is walked, by which target -/
def cI (L : Lx) : Ev.It → Expr → Expr → Bool
  | .val e, _, x => notSet x && cE L e x
  | .range es, _, x => match x with
    | .Call (.Name y _) args [] _ => L.glob y .rng && args.all plainE && cEs L es args && (args.length == 1 || args.length == 2)
    | _ => false
  | .enum e, tg, x => isTup tg && match x with
    | .Call (.Name y _) [a] [] _ => L.glob y .enm && plainE a && cE L e a
    | _ => false
  | .zip a b, tg, x => isTup tg && match x with
    | .Call (.Name y _) [p, q] [] _ => L.glob y .zp && plainE p && plainE q && cE L a p && cE L b q
    | _ => false
  | .items _, _, _ => false
def cT (L : Lx) : Ev.T → Expr → Bool
  | .nm i, x => match x with
    | .Name y _ => L.stores i y
    | _ => false
  | .tup ts, x => match x with
    | .Tuple xs _ _ => xs.all plainE && cTs L ts xs
    | _ => false
  | .stup ts i, x => match x with
    | .Tuple xs _ _ => match xs.getLast? with
      | some (.Starred (.Name y _) _) => L.stores i y && xs.dropLast.all plainE && cTs L ts xs.dropLast
      | _ => false
    | _ => false
  | .idx a i, x => match x with
    | .Subscript v s _ => notSlice s && cE L a v && cE L i s
    | _ => false
  | .fld a f, x => match x with
    | .Attribute o y _ => (y == nS f) && L.flds.contains f && cE L a o
    | _ => false
def cTs (L : Lx) : Ev.Ts → List Expr → Bool
  | .nil, l => match l with
    | [] => true
    | _ => false
  | .cons t ts, l => match l with
    | x :: r => cT L t x && cTs L ts r
    | _ => false
end
/-- a value that is no comprehension -/
def noComp : Expr → Bool
  | .ListComp _ _ _ _ => false
  | .SetComp _ _ _ _ => false
  | .DictComp _ _ _ _ _ => false
  | _ => true
/-- some names with one value each, stored from the right -/
def swNames (L : Lx) (ts vs : List Expr) : Option (List Str) :=
  if !(ts.length == 2 || ts.length == 3) || vs.length != ts.length then none else
  if vs.any (fun | .Starred .. => true | _ => false) then none else
  let line := (ts.head?.map (·.pos.line)).getD 0
  let names := ts.filterMap fun
    | .Name id pos => if L.kind id == some .local && pos.line == line then some id else none
    | _ => none
  if names.length != ts.length || names.eraseDups.length != names.length then none else
  if vs.all (foldedForSure 8) then none else some names
/-- how an assignment's stores go: none: from the left -/
def swap (L : Lx) (tg v : Expr) : Option (List Str) := match tg, v with
  | .Tuple ts _ _, .Tuple vs _ _ => swNames L ts vs
  | _, _ => none
def swapFine (tg v : Expr) : Bool := match tg, v with
  | .Tuple _ _ _, .Tuple vs _ _ => !(vs.all (constantsAlone 8)) || vs.all (foldedForSure 8)
  | .List _ _, _ => false
  | _, _ => true
/-- a comprehension to a name on its own line -/
def usedComp (L : Lx) (tg v : Expr) : Bool := match tg, v with
  | .Name t p, .ListComp _ _ scope q => L.kind t == some .local && p.line == q.line && !(scope.names.any fun n => n.1 == t && (n.2 == .local || n.2 == .cell))
  | _, _ => false
mutual
def cS (L : Lx) : Ev.S → Stmt → Bool
  | .ex e, s => match s with
    | .Expr x _ => noComp x && cE L e x
    | _ => false
  | .asg t e, s => match s with
    | .Assign [tg] x _ => plainE tg && swapFine tg x && cT L t tg && cE L e x && (match swap L tg x with
      | none => true
      | some _ => match t with
        | .tup (.cons (.nm i) (.cons (.nm j) .nil)) => i != j
        | .tup (.cons (.nm i) (.cons (.nm j) (.cons (.nm k) .nil))) => i != j && i != k && j != k
        | _ => false)
    | _ => false
  | .asgs ts e, s => match s with
    | .Assign (t1 :: t2 :: r) x _ => (t1 :: t2 :: r).all plainE && noComp x && cTs L ts (t1 :: t2 :: r) && cE L e x
    | _ => false
  | .aug t o e, s => match s with
    | .AugAssign tg op x _ => (op == opO o) && (o == .add || o == .sub) && cE L e x && (match t with
      | .nm i => match tg with
        | .Name y _ => (L.N[i]? == some y) && okName y && L.kind y == some .local
        | _ => false
      | .fld a f => match tg with
        | .Attribute ob y _ => (y == nS f) && L.flds.contains f && cE L a ob
        | _ => false
      | _ => false)
    | _ => false
  | .ret e, s => match s with
    | .Return (some x) _ => cE L e x
    | _ => false
  | .retn, s => match s with
    | .Return none _ => true
    | _ => false
  | .pass, s => match s with
    | .Pass _ => true
    | _ => false
  | .brk, s => match s with
    | .Break _ => true
    | _ => false
  | .cont, s => match s with
    | .Continue _ => true
    | _ => false
  | .ite c a b, s => match s with
    | .If t x y _ => cE L c t && cSs L a x && cSs L b y
    | _ => false
  | .whl c b, s => match s with
    | .While t x [] _ => cE L c t && cSs L b x
    | _ => false
  | .for_ t it b, s => match s with
    | .For tg iter x [] _ => cI L it tg iter && cT L t tg && cSs L b x
    | _ => false
  | .never, _ => true
def cSs (L : Lx) : Ev.Ss → List Stmt → Bool
  | .nil, l => match l with
    | [] => true
    | _ => false
  | .cons s ss, l => match l with
    | x :: r => cS L s x && cSs L ss r
    | _ => false
end
end EvS
set_option Elab.async false
set_option linter.all false
set_option maxRecDepth 100000
set_option maxHeartbeats 1000000
/-! EvQ: the context of a text; expressions. -/
namespace EvS
open PySem PySem.Spec PyProof.Rows L2

/-- what isinstance asks of a class -/
structure InsK (K : PySem.W.Frag) (C : Addr) : Prop where
  ha : PySem.W.findIn K (.ref C) "__class__" = some (some (.builtin "object.__class__"))
  hn : PySem.W.specialIn K (.builtin "object.__class__") "__get__" = some (some (.builtin "getset_descriptor.__get__"))
  tk : PySem.W.takesIn K (.builtin "object.__class__") = some true
  mr : PySem.W.mroIn K C (.type "object") = some true
structure KitK (K : PySem.W.Frag) (C : Addr) : Prop where
  to : ∀ T ∈ (["int", "bool", "str", "tuple", "list"] : List String), PySem.W.kitOne K (.ref C) (.type T) = some false
  of : ∀ T ∈ (["NoneType", "bool", "int", "str", "list", "tuple", "dict"] : List String), PySem.W.kitOne K (.type T) (.ref C) = some false
/-- what the global names, the classes stand for -/
structure GOk (K : PySem.W.Frag) (mg : Str → Option Value) (S : Stc) (tab : Ev.Tab) (T0 : Nat) (gl : List (Str × Gt)) (flds : List Ev.Nm) (tx : List (Str × Nat)) : Prop where
  val : ∀ (x : Str) (i : Nat) (d : Ev.D), gl.lookup x = some (.val i) → tab.glb[i]? = some d → ∃ (v : V) (u : Value), mg x = some u ∧ RelV v u ∧ ∀ H ι, RV K H ι d v
  df : ∀ (x : Str) (i : Nat), gl.lookup x = some (.fn (.df i)) → ∃ f fd ps D, mg x = some (.ref f) ∧ DOk K S tab i f fd ps D
  cl : ∀ (x : Str) (c : Nat), gl.lookup x = some (.fn (.cl c)) → ∃ C f fd ps D cd i, mg x = some (.ref C) ∧ S.cls c = some C ∧ Mk K C f ∧ tab.clss[c]? = some cd ∧ cd.init = some i ∧ DOk K S tab i f fd ps D
  bl : ∀ (x : Str) (f : Ev.Fn) (v : Value), gl.lookup x = some (.fn f) → fnV f = some v → mg x = none ∧ bootBuiltins x = some v
  rng : ∀ x : Str, gl.lookup x = some .rng → mg x = none ∧ bootBuiltins x = some (.type "range")
  enm : ∀ x : Str, gl.lookup x = some .enm → mg x = none ∧ bootBuiltins x = some (.type "enumerate")
  zp : ∀ x : Str, gl.lookup x = some .zp → mg x = none ∧ bootBuiltins x = some (.type "zip")
  isi : ∀ x : Str, gl.lookup x = some .isi → mg x = none ∧ bootBuiltins x = some (.builtin "isinstance")
  setf : ∀ x : Str, gl.lookup x = some .setf → mg x = none ∧ bootBuiltins x = some (.type "set")
  tbool : ∀ x : Str, gl.lookup x = some .tbool → mg x = none ∧ bootBuiltins x = some (.type "bool")
  cls : ∀ c C, S.cls c = some C → Cls K C
  ins : ∀ c C, S.cls c = some C → InsK K C
  kit : ∀ c C, S.cls c = some C → KitK K C ∧ ∀ d D, S.cls d = some D → PySem.W.kitOne K (.ref C) (.ref D) = some (c == d)
  noat : ∀ c C f, S.cls c = some C → flds.contains f = true → NoAttr K C (nS f)
  meth : ∀ c C cd m i, S.cls c = some C → tab.clss[c]? = some cd → Ev.mlook cd.meths m = some i → ∃ g fd ps D, Meth K C (nS m) g ∧ DOk K S tab i g fd ps D
  eqs : ∀ c C cd i, S.cls c = some C → tab.clss[c]? = some cd → cd.eq = some i → ∃ g fd ps D, Meth K C "__eq__" g ∧ DOk K S tab i g fd ps D ∧ PySem.W.findIn K (.ref C) "__ne__" = some (some (.builtin "object.__ne__"))
  subs : ∀ c C d D, S.cls c = some C → S.cls d = some D → c ≠ d → PySem.W.subIn K (.ref D) (.ref C) = some false
  t0 : 0 < T0
  tx : ∀ (x : Str) (c : Nat), tx.lookup x = some c → ∃ t : Nat, mg x = some (.str ⟨#[c]⟩ t) ∧ 0 < t ∧ t < T0
/-- X is the place L of the text, k calls deep -/
structure XOk (S : Stc) (tab : Ev.Tab) (fuel T0 k : Nat) (L : Lx) (X : Cx) : Prop where
  g : GX S tab fuel T0 k X
  gl : GOk X.K X.mg S tab T0 L.gl L.flds L.tx
  sc : X.env.scope = L.sc
  N : X.N = L.N
  nd : L.N.Nodup
  xe : X.xe = fun _ _ => False
  fn : ∀ x : Str, (match L.ow with | none => true | some s => s.names.lookup x == some .cell) = true → X.fn x = true
section
variable {S : Stc} {tab : Ev.Tab} {fuel T0 k : Nat} {L : Lx} {X : Cx}
/-- .. within a comprehension -/
theorem XOk.inner (o : XOk S tab fuel T0 k L X) {scope : Scope} {s0 : Shared} {H0 : Hp} {C : Addr} {cl : List (Str × Addr)} {fp : List Addr} (tb : TB X s0) : XOk S tab fuel T0 k (L.inner scope) (bk X scope s0 H0 C cl fp) where
  g := ⟨o.g.room, o.g.gd, o.g.calm, Nat.le_trans o.g.t0 tb, o.g.run⟩
  gl := o.gl
  sc := by
    show relS scope X.env.scope = relS scope L.sc
    rw [o.sc]
  N := o.N
  nd := o.nd
  xe := rfl
  fn := fun x h => h
theorem XOk.ndX (o : XOk S tab fuel T0 k L X) : X.N.Nodup := by rw [o.N]; exact o.nd
theorem XOk.hu (o : XOk S tab fuel T0 k L X) : X.A.units + 64 < cLine := o.g.un

/-! ### what the checker's words say -/
theorem okName_dbg {x : Str} (h : okName x = true) : (x == ("__debug__" : Str)) = false ∧ (x == ("__classdict__" : Str)) = false ∧ x ≠ ("__name__" : Str) := by
  unfold okName at h
  rw [Bool.and_eq_true, Bool.and_eq_true, Bool.not_eq_true', Bool.not_eq_true', Bool.not_eq_true'] at h
  exact ⟨h.1.1, h.1.2, fun e => by subst e; have := h.2; simp at this⟩
theorem XOk.loads (o : XOk S tab fuel T0 k L X) {i : Nat} {x : Str} (h : L.loads i x = true) : X.N[i]? = some x ∧ Vis X.env.scope x ∧ okName x = true := by
  unfold Lx.loads Lx.kind at h
  simp only [Bool.and_eq_true, Bool.or_eq_true, beq_iff_eq] at h
  refine ⟨by rw [o.N]; exact h.1.1, ?_, h.1.2⟩
  unfold Vis
  rw [o.sc]
  rcases h.2 with (z | z) | z
  · exact .inl z
  · exact .inr (.inl z)
  · exact .inr (.inr z)
theorem XOk.stores (o : XOk S tab fuel T0 k L X) {i : Nat} {x : Str} (h : L.stores i x = true) : X.N[i]? = some x ∧ L2.Loc X.env.scope x ∧ (X.fn x = true ∨ X.env.scope.names.lookup x = some .local) := by
  unfold Lx.stores Lx.kind at h
  simp only [Bool.and_eq_true, Bool.or_eq_true, beq_iff_eq] at h
  refine ⟨by rw [o.N]; exact h.1.1, ?_, ?_⟩
  · unfold L2.Loc
    rw [o.sc]
    exact h.2.imp id (·.1)
  · rw [o.sc]
    rcases h.2 with z | z
    · exact .inr z
    · exact .inl (o.fn x z.2)
theorem XOk.glob (o : XOk S tab fuel T0 k L X) {x : Str} {t : Gt} (h : L.glob x t = true) : Gl X x ∧ L.gl.lookup x = some t ∧ okName x = true := by
  unfold Lx.glob Lx.kind at h
  simp only [Bool.and_eq_true, beq_iff_eq] at h
  refine ⟨?_, h.2, h.1.1⟩
  show X.env.scope.names.lookup x = _
  rw [o.sc]
  exact h.1.2
theorem noSup_base {e : Expr} (f : Str) (env : Env) (w : Sem Value) (h : noSup e = true) : attributeBase e f env w = w := by
  unfold attributeBase
  split
  · cases h
  · rfl
theorem notSet_marks {e : Expr} (op : CmpOp) (h : notSet e = true) : behindInMarks op e = false := by
  cases e <;> first | rfl | cases h
theorem notSet_last {a b : Expr} (o p : CmpOp) (h : notSet b = true) : lastMarks [o, p] [a, b] = false := notSet_marks p h
theorem notSet_fold {e : Expr} (env : Env) (x : Value) (h : notSet e = true) : foldedSetIterable e env x = pure x := by
  cases e <;> first | rfl | cases h
theorem notSlice_ix {e : Expr} (h : notSlice e = true) : PlainIx e := fun o i => by
  cases e <;> first | rfl | cases h
theorem notSlice_ne {e : Expr} (h : notSlice e = true) : ∀ a b c d, e ≠ .Slice a b c d := fun a b c d z => by subst z; cases h
theorem plain_true {e : Expr} (env : Env) (h : plainT e = true) : ∀ whole, isTrue e env whole = (do let v ← whole; standAt e.pos; holding [v] (truthy v)) := fun whole => by
  cases e with
  | UnaryOp op x p => cases op <;> first | rfl | cases h
  | BoolOp => cases h
  | IfExp => cases h
  | Compare => cases h
  | _ => rfl
theorem const_ok {K : PySem.W.Frag} {H : Hp} {ι : List Addr} {d : Ev.D} {c : Const} {j : Nat} {pos : Pos} {σ : L2.St} {cls : Nat → Option Addr} {h : Ev.Heap} (R : Rep X.K cls H ι h) (e : constOk d c = true) : SE X (.Constant c j pos) σ H (PQ X.K cls H ι d h) := by
  unfold constOk at e
  split at e
  · exact se pe_non (.here R .non)
  · have e := beq_iff_eq.mp e
    subst e
    exact se pe_bl (.here R (.bl _))
  · have e := beq_iff_eq.mp e
    subst e
    exact se pe_int (.here R (.int _))
  · rename_i s x
    rw [Bool.and_eq_true, decide_eq_true_iff, beq_iff_eq] at e
    have ex := sT_eq e.1
    subst ex
    exact se pe_str (.here R (.str _ e.2))
  · cases e

/-! ### one after the other -/
theorem PQ.after {K : PySem.W.Frag} {cls : Nat → Option Addr} {H H1 : Hp} {ι ι1 : List Addr} {d : Ev.D} {h : Ev.Heap} (p : Pre ι ι1) (kp : Kp H H1) {v : V} {H' : Hp} (q : PQ K cls H1 ι1 d h v H') : PQ K cls H ι d h v H' := by
  obtain ⟨ι', p', k', R, r⟩ := q
  exact ⟨ι', p.trans p', kp.trans k', R, r⟩
theorem HQ.after {K : PySem.W.Frag} {cls : Nat → Option Addr} {H H1 : Hp} {ι ι1 : List Addr} {h : Ev.Heap} (p : Pre ι ι1) (kp : Kp H H1) {H' : Hp} (q : HQ K cls H1 ι1 h H') : HQ K cls H ι h H' := by
  obtain ⟨ι', p', k', R⟩ := q
  exact ⟨ι', p.trans p', kp.trans k', R⟩
end

/-! ### what is to be shown of each part of the text -/
section
variable (S : Stc) (tab : Ev.Tab) (fuel T0 k : Nat)
/-- an expression gives its value -/
def OkE (e : Ev.E) : Prop := ∀ (L : Lx) (X : Cx) (x : Expr), cE L e x = true → XOk S tab fuel T0 k L X → ∀ (σ : L2.St) (H : Hp) (ι : List Addr) (v : Ev.Env) (h h' : Ev.Heap) (d : Ev.D),
  REnv X.K H ι v σ → Rep X.K S.cls H ι h → Ev.evE (cxE tab fuel k) e v h = some (d, h') → SE X x σ H (PQ X.K S.cls H ι d h')
/-- a test gives its truth -/
def OkB (e : Ev.E) : Prop := ∀ (L : Lx) (X : Cx) (x : Expr), cE L e x = true → XOk S tab fuel T0 k L X → ∀ (σ : L2.St) (H : Hp) (ι : List Addr) (v : Ev.Env) (h h' : Ev.Heap) (d : Ev.D) (b : Bool),
  REnv X.K H ι v σ → Rep X.K S.cls H ι h → Ev.evE (cxE tab fuel k) e v h = some (d, h') → Ev.truth h' d = some b → SB X x σ H fun c H' => c = b ∧ HQ X.K S.cls H ι h' H'
/-- the rest of an and, an or -/
def OkJ (op : BoolOp) (chk : Lx → Ev.E → List Expr → Bool) (e : Ev.E) : Prop := ∀ (L : Lx) (X : Cx) (xs : List Expr) (pos : Pos), chk L e xs = true → XOk S tab fuel T0 k L X → ∀ (σ : L2.St) (H : Hp) (ι : List Addr) (v : Ev.Env) (h h' : Ev.Heap) (d : Ev.D),
  REnv X.K H ι v σ → Rep X.K S.cls H ι h → Ev.evE (cxE tab fuel k) e v h = some (d, h') → SE X (.BoolOp op xs pos) σ H (PQ X.K S.cls H ι d h') ∧
    ∀ b, Ev.truth h' d = some b → SW X (.BoolOp op xs pos) σ H fun c H' => c = b ∧ HQ X.K S.cls H ι h' H'
structure GE (e : Ev.E) : Prop where
  se : OkE S tab fuel T0 k e
  sb : OkB S tab fuel T0 k e
  and_ : OkJ S tab fuel T0 k .And cAnd e
  or_ : OkJ S tab fuel T0 k .Or cOr e
/-- a slice's end; a comprehension's test -/
structure GO (e : Ev.Eo) : Prop where
  so : ∀ (L : Lx) (X : Cx) (x : Option Expr), cO' L e x = true → XOk S tab fuel T0 k L X → ∀ (σ : L2.St) (H : Hp) (ι : List Addr) (v : Ev.Env) (h h' : Ev.Heap) (d : Option Int),
    REnv X.K H ι v σ → Rep X.K S.cls H ι h → Ev.evO (cxE tab fuel k) e v h = some (d, h') → SO X x σ H fun o H' => o = d ∧ HQ X.K S.cls H ι h' H'
  sc : ∀ (L : Lx) (X : Cx) (xs : List Expr), cC L e xs = true → XOk S tab fuel T0 k L X → ∀ (σ : L2.St) (H : Hp) (ι : List Addr) (v : Ev.Env) (h h' : Ev.Heap) (b : Bool),
    REnv X.K H ι v σ → Rep X.K S.cls H ι h → Ev.evC (cxE tab fuel k) e v h = some (b, h') → STs X xs σ H fun c H' => c = b ∧ HQ X.K S.cls H ι h' H'
/-- a row of values -/
def LQ (K : PySem.W.Frag) (cls : Nat → Option Addr) (H : Hp) (ι : List Addr) (ds : List Ev.D) (h' : Ev.Heap) : List V → Hp → Prop := fun vs H' => ∃ ι', Pre ι ι' ∧ Kp H H' ∧ Rep K cls H' ι' h' ∧ RVs K H' ι' ds vs
structure GEs (e : Ev.Es) : Prop where
  hd : ∀ a b, e = .cons a b → GE S tab fuel T0 k a
  sa : ∀ (L : Lx) (X : Cx) (xs : List Expr), xs.all plainE = true → cEs L e xs = true → XOk S tab fuel T0 k L X → ∀ (σ : L2.St) (H : Hp) (ι : List Addr) (v : Ev.Env) (h h' : Ev.Heap) (ds : List Ev.D),
    REnv X.K H ι v σ → Rep X.K S.cls H ι h → Ev.evEs (cxE tab fuel k) e v h = some (ds, h') → SA X xs σ H (LQ X.K S.cls H ι ds h')
  sak : ∀ (L : Lx) (X : Cx) (xs : List Expr) (ks : List Keyword), xs.all plainE = true → cAK L e xs ks = true → XOk S tab fuel T0 k L X → ∀ (σ : L2.St) (H : Hp) (ι : List Addr) (v : Ev.Env) (h h' : Ev.Heap) (ds : List Ev.D),
    REnv X.K H ι v σ → Rep X.K S.cls H ι h → Ev.evEs (cxE tab fuel k) e v h = some (ds, h') → SAK X xs ks σ H (LQ X.K S.cls H ι ds h')
  sk : ∀ (L : Lx) (X : Cx) (ks : List Keyword), cAK L e [] ks = true → XOk S tab fuel T0 k L X → ∀ (σ : L2.St) (H : Hp) (ι : List Addr) (v : Ev.Env) (h h' : Ev.Heap) (ds : List Ev.D),
    REnv X.K H ι v σ → Rep X.K S.cls H ι h → Ev.evEs (cxE tab fuel k) e v h = some (ds, h') → SKW X ks σ H (LQ X.K S.cls H ι ds h')
  sp : ∀ (L : Lx) (X : Cx) (ks : List (Option Expr)) (vs : List Expr), cPs L e ks vs = true → XOk S tab fuel T0 k L X → ∀ (σ : L2.St) (H : Hp) (ι : List Addr) (v : Ev.Env) (h h' : Ev.Heap) (ds : List Ev.D),
    REnv X.K H ι v σ → Rep X.K S.cls H ι h → Ev.evEs (cxE tab fuel k) e v h = some (ds, h') → SPP X ks vs σ H (LQ X.K S.cls H ι ds h')
  sv : ∀ (L : Lx) (X : Cx) (x : Expr) (ks : List (Option Expr)) (vs : List Expr), cPv L e x ks vs = true → XOk S tab fuel T0 k L X → ∀ (σ : L2.St) (H : Hp) (ι : List Addr) (v : Ev.Env) (h h' : Ev.Heap) (ds : List Ev.D),
    REnv X.K H ι v σ → Rep X.K S.cls H ι h → Ev.evEs (cxE tab fuel k) e v h = some (ds, h') → SE X x σ H fun y H1 => SPP X ks vs σ H1 fun r H2 => LQ X.K S.cls H ι ds h' (y :: r) H2
/-- what is walked -/
structure GI (e : Ev.It) : Prop where
  si : ∀ (L : Lx) (X : Cx) (tg x : Expr), cI L e tg x = true → XOk S tab fuel T0 k L X → ∀ (σ : L2.St) (H : Hp) (ι : List Addr) (v : Ev.Env) (h h' : Ev.Heap) (src : Ev.Src),
    REnv X.K H ι v σ → Rep X.K S.cls H ι h → Ev.evI (cxE tab fuel k) e v h = some (src, h') → SI X tg x σ H fun J H' => ∃ ι', Pre ι ι' ∧ Kp H H' ∧ Rep X.K S.cls H' ι' h' ∧ SrcOk X.K S.cls H' ι' src J
  fold : ∀ (L : Lx) (tg x : Expr) (env : Env) (u : Value), cI L e tg x = true → foldedSetIterable x env u = pure u
/-- the names and the heap behind a store -/
def TQ (K : PySem.W.Frag) (cls : Nat → Option Addr) (H : Hp) (ι : List Addr) (v' : Ev.Env) (h' : Ev.Heap) (own : List Nat) (σ : L2.St) : L2.St → Hp → Prop := fun σ' H' =>
  ∃ ι', Pre ι ι' ∧ Kp H H' ∧ Rep K cls H' ι' h' ∧ REnv K H' ι' v' σ' ∧ ∀ i, i ∉ own → σ'[i]? = σ[i]?
structure GT (t : Ev.T) : Prop where
  sg : ∀ (L : Lx) (X : Cx) (x : Expr), cT L t x = true → XOk S tab fuel T0 k L X → ∀ (σ : L2.St) (H : Hp) (ι : List Addr) (v v' : Ev.Env) (h h' : Ev.Heap) (d : Ev.D) (y : V),
    REnv X.K H ι v σ → Rep X.K S.cls H ι h → RV X.K H ι d y → Ev.asgT (cxE tab fuel k) t d v h = some (v', h') → SG X x y σ H (TQ X.K S.cls H ι v' h' t.slots σ)
structure GTs (t : Ev.Ts) : Prop where
  /-- a row of targets, and more behind it -/
  sg : ∀ (L : Lx) (X : Cx) (xs more : List Expr), xs.all plainE = true → cTs L t xs = true → XOk S tab fuel T0 k L X → ∀ (σ : L2.St) (H : Hp) (ι : List Addr) (v v' : Ev.Env) (h h' : Ev.Heap) (ds : List Ev.D) (ys zs : List V) (Q : L2.St → Hp → Prop),
    REnv X.K H ι v σ → Rep X.K S.cls H ι h → RVs X.K H ι ds ys → Ev.asgTs (cxE tab fuel k) t ds v h = some (v', h') → (∀ σ' H', TQ X.K S.cls H ι v' h' t.slots σ σ' H' → SGs X more zs σ' H' Q) → SGs X (xs ++ more) (ys ++ zs) σ H Q
  len : ∀ (L : Lx) (xs : List Expr), cTs L t xs = true → xs.length = t.len
  /-- one value to each -/
  al : ∀ (L : Lx) (X : Cx) (xs : List Expr), xs ≠ [] → xs.all plainE = true → cTs L t xs = true → XOk S tab fuel T0 k L X → ∀ (σ : L2.St) (H : Hp) (ι : List Addr) (v v' : Ev.Env) (h h' : Ev.Heap) (d : Ev.D) (y : V),
    REnv X.K H ι v σ → Rep X.K S.cls H ι h → RV X.K H ι d y → Ev.asgAll (cxE tab fuel k) t d v h = some (v', h') → SAll X xs y σ H (TQ X.K S.cls H ι v' h' t.slots σ)
end
section
variable {S : Stc} {tab : Ev.Tab} {fuel T0 k : Nat}
/-- no and, no or, read as a plain value in a test -/
theorem GE.plain {e : Ev.E} (h : OkE S tab fuel T0 k e) (hp : ∀ L x, cE L e x = true → plainT x = true) (ha : ∀ L xs, cAnd L e xs = false) (ho : ∀ L xs, cOr L e xs = false) : GE S tab fuel T0 k e where
  se := h
  sb := fun L X x hc o σ H ι v h0 h' d b rv R ev tr pins s tb I => sb_val ((h L X x hc o σ H ι v h0 h' d rv R ev).imp fun y H1 ⟨ι1, p1, k1, R1, r1⟩ => ⟨b, tru_of tr R1 r1, rfl, ι1, p1, k1, R1⟩) (plain_true X.env (hp L x hc)) pins s tb I
  and_ := fun L X xs pos hc => by rw [ha] at hc; cases hc
  or_ := fun L X xs pos hc => by rw [ho] at hc; cases hc
end
end EvS
set_option Elab.async false
set_option linter.all false
set_option maxRecDepth 100000
set_option maxHeartbeats 1000000
/-! EvR: each expression but calls, comprehensions. -/
namespace EvS
open PySem PySem.Spec PyProof.Rows L2
section
variable {S : Stc} {tab : Ev.Tab} {fuel T0 k : Nat} {a b c : Ev.E}

theorem g_loc {i : Nat} : GE S tab fuel T0 k (.loc i) := by
  refine .plain (fun L X x hc ok σ H ι v h h' d rv R ev => ?_) (fun L x hc => ?_) (fun _ _ => by simp only [cAnd]) (fun _ _ => by simp only [cOr])
  · simp only [cE] at hc
    split at hc
    · obtain ⟨h1, h2, h3⟩ := ok.loads hc
      simp only [Ev.evE] at ev
      split at ev
      · rename_i d' e1
        cases ev
        obtain ⟨y, e2, r⟩ := paired_get rv e1
        cases y with
        | none => exact r.elim
        | some y =>
          have r' : RV X.K H ι d y := r
          exact se (pe_var h1 h2 (okName_dbg h3).1 (okName_dbg h3).2.1) ⟨y, e2, .here R r'⟩
      · cases ev
    · cases hc
  · simp only [cE] at hc
    split at hc
    · rfl
    · cases hc
theorem g_cst {d : Ev.D} : GE S tab fuel T0 k (.cst d) := by
  refine .plain (fun L X x hc ok σ H ι v h h' d rv R ev => ?_) (fun L x hc => ?_) (fun _ _ => by simp only [cAnd]) (fun _ _ => by simp only [cOr])
  · simp only [cE] at hc
    split at hc
    · simp only [Ev.evE] at ev
      cases ev
      exact const_ok (K := X.K) (H := H) (ι := ι) R hc
    · cases hc
  · simp only [cE] at hc
    split at hc
    · rfl
    · cases hc
theorem g_glb {i : Nat} : GE S tab fuel T0 k (.glb i) := by
  refine .plain (fun L X x hc ok σ H ι v h h' d rv R ev => ?_) (fun L x hc => ?_) (fun _ _ => by simp only [cAnd]) (fun _ _ => by simp only [cOr])
  · simp only [cE] at hc
    split at hc
    · obtain ⟨h1, h2, h3⟩ := ok.glob hc
      simp only [Ev.evE] at ev
      obtain ⟨d', e1, e2⟩ := Option.map_eq_some_iff.mp ev
      cases e2
      obtain ⟨y, u, m, r, q⟩ := ok.gl.val _ _ _ h2 e1
      exact se (pe_glob h1 m r (okName_dbg h3).1) (.here R (q H ι))
    · cases hc
  · simp only [cE] at hc
    split at hc
    · rfl
    · cases hc
theorem g_bin {o : Ev.BOp} (ga : GE S tab fuel T0 k a) (gb : GE S tab fuel T0 k b) : GE S tab fuel T0 k (.bin o a b) := by
  refine .plain (fun L X x hc ok σ H ι v h h' d rv R ev => ?_) (fun L x hc => ?_) (fun _ _ => by simp only [cAnd]) (fun _ _ => by simp only [cOr])
  · simp only [cE] at hc
    split at hc
    · simp only [Bool.and_eq_true, beq_iff_eq] at hc
      obtain ⟨⟨eo, c1⟩, c2⟩ := hc
      subst eo
      simp only [Ev.evE] at ev
      split at ev
      · rename_i x1 h1 e1
        split at ev
        · rename_i y1 h2 e2
          refine se_bin ((ga.se L X _ c1 ok σ H ι v h h1 x1 rv R e1).imp fun vx H1 ⟨ι1, p1, k1, R1, r1⟩ => (gb.se L X _ c2 ok σ H1 ι1 v h1 h2 y1 (REnv.mono k1 p1 rv) R1 e2).imp fun vy H2 ⟨ι2, p2, k2, R2, r2⟩ => ?_)
          exact (sf_bin ev R2 (r1.mono k2 p2) r2).imp fun z H3 q => q.after (p1.trans p2) (k1.trans k2)
        · cases ev
      · cases ev
    · cases hc
  · simp only [cE] at hc
    split at hc
    · rfl
    · cases hc
theorem g_neg (ga : GE S tab fuel T0 k a) : GE S tab fuel T0 k (.neg a) := by
  refine .plain (fun L X x hc ok σ H ι v h h' d rv R ev => ?_) (fun L x hc => ?_) (fun _ _ => by simp only [cAnd]) (fun _ _ => by simp only [cOr])
  · simp only [cE] at hc
    split at hc
    · simp only [Ev.evE] at ev
      split at ev
      · rename_i i h1 e1
        cases ev
        exact se_neg ((ga.se L X _ hc ok σ H ι v h h' _ rv R e1).imp fun vx H1 ⟨ι1, p1, k1, R1, r1⟩ => ⟨i, r1.intv, ι1, p1, k1, R1, .int _⟩)
      · cases ev
    · cases hc
  · simp only [cE] at hc
    split at hc
    · rfl
    · cases hc
theorem g_not (ga : GE S tab fuel T0 k a) : GE S tab fuel T0 k (.not a) := by
  refine ⟨fun L X x hc ok σ H ι v h h' d rv R ev => ?_, fun L X x hc ok σ H ι v h h' d b rv R ev tr => ?_, fun L X xs pos hc => absurd hc (by simp only [cAnd]; exact Bool.false_ne_true), fun L X xs pos hc => absurd hc (by simp only [cOr]; exact Bool.false_ne_true)⟩
  · simp only [cE] at hc
    split at hc
    · simp only [Ev.evE] at ev
      split at ev
      · rename_i x1 h1 e1
        obtain ⟨b, t1, e2⟩ := Option.map_eq_some_iff.mp ev
        cases e2
        exact se_not ((ga.se L X _ hc ok σ H ι v h h' _ rv R e1).imp fun vx H1 ⟨ι1, p1, k1, R1, r1⟩ => ⟨b, tru_of t1 R1 r1, ι1, p1, k1, R1, .bl _⟩)
      · cases ev
    · cases hc
  · simp only [cE] at hc
    split at hc
    · simp only [Ev.evE] at ev
      split at ev
      · rename_i x1 h1 e1
        obtain ⟨b', t1, e2⟩ := Option.map_eq_some_iff.mp ev
        cases e2
        cases tr
        exact sb_not ((ga.sb L X _ hc ok σ H ι v h h' _ b' rv R e1 t1).imp fun c H1 ⟨ec, q⟩ => ⟨by rw [ec], q⟩)
      · cases ev
    · cases hc
/-! ### an instance's own == -/
theorem guards_in1 {A : Around} (h : A.guards = some []) : A.in1.guards = some [] := by
  first | exact h | simp [Around.in1, h]
/-- the type of what a value stands for -/
theorem tyx_of {S : Stc} {L : Lx} {X : Cx} {H : Hp} {ι : List Addr} {h : Ev.Heap} {x : Ev.D} {vx : V} (gl : GOk X.K X.mg S tab T0 L.gl L.flds L.tx) (R : Rep X.K S.cls H ι h) (r : RV X.K H ι x vx) :
    ∃ ty, TyX X.K H vx ty ∧ ((∃ T ∈ (["NoneType", "bool", "int", "str", "list", "tuple", "dict"] : List String), ty = .type T) ∨ ∃ c C, ty = .ref C ∧ S.cls c = some C) := by
  cases r with
  | non => exact ⟨_, .base .non, .inl ⟨_, by simp, rfl⟩⟩
  | bl b => exact ⟨_, .base (.bl _), .inl ⟨_, by simp, rfl⟩⟩
  | int i => exact ⟨_, .base (.int _), .inl ⟨_, by simp, rfl⟩⟩
  | str s hs => exact ⟨_, .base (.str _), .inl ⟨_, by simp, rfl⟩⟩
  | tup q w =>
    refine ⟨.type "tuple", ?_, .inl ⟨_, by simp, rfl⟩⟩
    rcases q with (q | ⟨o, q⟩) | ⟨_, _, _, q, c, _⟩
    · exact .base (.tup q)
    · exact .fTuple q
    · exact .kTuple q c
  | @ref i a e =>
    have hi : i < h.cs.length := by
      have := (List.getElem?_eq_some_iff.mp e).1
      rw [show ι.length = h.cs.length from R.len] at this
      exact this
    have hc := R.at_ i a _ e (show h.get i = some h.cs[i] from List.getElem?_eq_getElem hi)
    revert hc
    cases h.cs[i] with
    | lst xs => exact fun ⟨vs, hv, _⟩ => ⟨_, .base (.lst hv), .inl ⟨_, by simp, rfl⟩⟩
    | fro xs => exact fun ⟨o, vs, hv, _⟩ => ⟨_, .base (.frz hv), .inl ⟨_, by simp, rfl⟩⟩
    | dct xs => exact fun ⟨ws, hv, _⟩ => ⟨_, .base (.dK hv), .inl ⟨_, by simp, rfl⟩⟩
    | obj c fs => exact fun ⟨C, dx, gs, hC, hv, _⟩ => ⟨_, .base (.ins hv (gl.cls c C hC) (gl.ins c C hC).ha (gl.ins c C hC).hn (gl.ins c C hC).tk (gl.ins c C hC).mr), .inr ⟨c, C, rfl, hC⟩⟩
theorem not_first {K : PySem.W.Frag} {C : Addr} {T : String} (h : T ∈ (["NoneType", "bool", "int", "str", "list", "tuple", "dict"] : List String)) : PySem.W.subIn K (.type T) (.ref C) = some false := by
  have key : ∀ l : List Value, fastBuiltinMro T = some l → l.all (fun v => match v with | .type _ => true | _ => false) = true → PySem.W.subIn K (.type T) (.ref C) = some false := fun l e hl => by
    show (fastBuiltinMro T).map (·.contains (.ref C)) = some false
    rw [e]
    simp only [Option.map_some, Option.some.injEq]
    rw [Bool.eq_false_iff]
    intro z
    have := List.all_eq_true.mp hl _ (List.contains_iff_mem.mp z)
    cases this
  simp only [List.mem_cons, List.not_mem_nil, or_false] at h
  rcases h with rfl | rfl | rfl | rfl | rfl | rfl | rfl
  · exact key _ (by decide +kernel : _ = some [.type "NoneType", .type "object"]) rfl
  · exact key _ (by decide +kernel : _ = some [.type "bool", .type "int", .type "object"]) rfl
  · exact key _ (by decide +kernel : _ = some [.type "int", .type "object"]) rfl
  · exact key _ (by decide +kernel : _ = some [.type "str", .type "object"]) rfl
  · exact key _ (by decide +kernel : _ = some [.type "list", .type "object"]) rfl
  · exact key _ (by decide +kernel : _ = some [.type "tuple", .type "object"]) rfl
  · exact key _ (by decide +kernel : _ = some [.type "dict", .type "object"]) rfl
section
variable {M : Model} {prog : Program} {w : World} {A : Around} {E : Value → Shared → Prop} {s : Shared} {K : PySem.W.Frag} {x C f : Addr} {ox : Obj} {od : Option Obj} {u : Value}
theorem bound_ne {args : List Value} {Q : Option Value → Shared → Prop} (X : K.In s.heap) (I : PySem.W.InstAt s.heap x ox C od) (hs : PySem.W.findIn K (.ref C) "__ne__" = some (some (.builtin "object.__ne__")))
    (h : wpAny M A (call (.builtin "object.__ne__") (.ref x :: args)) (fun v => Q (some v)) E s) : wpAny M A (callSpecialIfBound? (.ref x) "__ne__" args) Q E s := by
  simp only [callSpecialIfBound?, bindSpecialIfBound?]
  refine wpAny_holding (wpAny_bind (wpAny_bind (wpAny_bind (I.type.here ((PySem.W.looks_findIn X hs).here ?_)))))
  refine wpAny_bind (wpAny_askSetting (wpAny_ite ?_))
  have fin : wpAny M A (call (.builtin "object.__ne__") ([.ref x] ++ args) >>= fun v => pure (some v)) Q E s := wpAny_bind (wpAny_mono h (fun v s' h' => wpAny_pure h') fun _ _ h' => h')
  split
  · exact wpAny_bind (wpAny_of_eq (F.cmp_object.ne.bind _) (wpAny_pure (by exact fin)))
  · exact wpAny_tryCatch (wpAny_bind (wpAny_of_eq (F.cmp_object.ne.bind _) (wpAny_pure (by exact fin))))
theorem entry_ne_own (X : K.In s.heap) (I : PySem.W.InstAt s.heap x ox C od) (hs : PySem.W.findIn K (.ref C) "__eq__" = some (some (.ref f))) (hf : PySem.W.isFn K (.ref f) = true) (hu : A.units < cLine) {Q : Fin → Shared → Prop}
    (hc : wpAny M A (call (.ref f) [.ref x, u]) (fun v s' => ∃ b, v = .bool b ∧ Q (.done (.ret (.bool (!b)))) s') E s) : wpAny M A (Builtin.«object.__ne__» ⟨[.ref x, u], []⟩) Q E s := by
  unfold Builtin.«object.__ne__»
  show wpAny M A (do
    cRoomFor "comparison" [.ref x, u]
    match ← callSpecialIfBound? (.ref x) "__eq__" [u] with
    | some .notImplemented | none => ret .notImplemented
    | some r => ret (.bool (!(← truthy r)))) Q E s
  refine wpAny_bind (wpAny_cRoomFor hu ?_)
  refine wpAny_bind (PySem.W.ifBound_K X I hs hf (wpAny_mono hc (fun v s' hv => ?_) fun _ _ e => e))
  obtain ⟨b, rfl, q⟩ := hv
  exact wpAny_bind (wpAny_truthy_bool (wpAny_pure q))
theorem rich_ne (hu : A.units + 1 < cLine) (X : K.In s.heap) (I : PySem.W.InstAt s.heap x ox C od) {tb : Value} (hb : PySem.W.Looks (model prog w) s.heap (typeOf u) tb) (hn : PySem.W.notFirst K C tb = true) (hm : PySem.W.mroIn K C (.type "object") = some true)
    (h1 : PySem.W.findIn K (.ref C) "__ne__" = some (some (.builtin "object.__ne__"))) (hs : PySem.W.findIn K (.ref C) "__eq__" = some (some (.ref f))) (hf : PySem.W.isFn K (.ref f) = true) {Q : Value → Shared → Prop}
    (hc : wpAny (model prog w) A.in1 (call (.ref f) [.ref x, u]) (fun v s' => ∃ b, v = .bool b ∧ Q (.bool (!b)) s') E s) : wpAny (model prog w) A (richCompare .NotEq (.ref x) u) Q E s := by
  have one : wpAny (model prog w) A (tryCompare (.ref x) "__ne__" u) (fun r s' => ∃ v, r = some v ∧ Q v s') E s := by
    unfold tryCompare
    refine wpAny_bind (bound_ne X I h1 (wpAny_call (codeAny_call_builtin F.cmp_object.ne.plain F.cmpEntry_ne (PySem.W.check_slot F.cmpKind_ne F.cmpSplit_ne (I.type.andThen (PySem.W.looks_mroIn X hm)) (F.cmpArgs_ne _ _)
      (entry_ne_own (A := A.in1) X I hs hf hu (wpAny_mono hc (fun v s' hv => ?_) fun _ _ e => e))))))
    obtain ⟨b, rfl, q⟩ := hv
    exact ⟨b, rfl, wpAny_pure ⟨_, rfl, q⟩⟩
  simp only [richCompare, cmpInfo_NotEq, oneThing_ref]
  refine wpAny_holding (wpAny_bind (wpAny_cRoomFor (Nat.lt_of_succ_lt hu) ?_))
  refine wpAny_bind (I.type.here (wpAny_bind (hb.here ?_)))
  have fin : ∀ {t : Sem Value}, wpAny (model prog w) A (tryCompare (.ref x) "__ne__" u) (fun r s' => ∃ v, r = some v ∧ Q v s') E s → wpAny (model prog w) A (tryCompare (.ref x) "__ne__" u >>= fun r => match r with
      | some v => pure v
      | none => t) Q E s := fun z => wpAny_bind (wpAny_mono z (fun r s' ⟨v, e, q⟩ => by subst e; exact wpAny_pure q) fun _ _ e => e)
  split
  · rename_i q
    have e : PySem.W.subIn K tb (.ref C) = some false := by
      rcases Bool.or_eq_true_iff.mp hn with e | e
      · rw [beq_iff_eq.mp e] at q; simp at q
      · exact beq_iff_eq.mp e
    refine wpAny_bind ((PySem.W.looks_subIn X e).here ?_)
    simp only [Bool.false_eq_true, if_false]
    exact wpAny_bind (wpAny_mono one (fun r s' ⟨v, e, q⟩ => by subst e; exact wpAny_pure q) fun _ _ e => e)
  · refine wpAny_bind (wpAny_pure ?_)
    try simp only [Bool.false_eq_true, if_false]
    exact (wpAny_bind (wpAny_mono one (fun r s' ⟨v, e, q⟩ => by subst e; exact wpAny_pure q) fun _ _ e => e))
end
theorem rel_not {v : V} {u : Value} {Q : Value → Shared → Prop} {s : Shared} (r : RelV v u) (q : Q u s) : PySem.W.CmpBack Q u s := by
  cases v <;> first | (cases r; exact q) | (obtain ⟨t, rfl⟩ := r; exact q)
theorem cmp_bl {X' : Ev.Cx} {o : Ev.COp} {x y d : Ev.D} {h h' : Ev.Heap} (e : Ev.cmpE X' o x y h = some (d, h')) : ∃ b, d = .bl b := by
  have fin : ((Ev.cmpV o x y h).map fun b => ((Ev.D.bl b, h) : Ev.D × Ev.Heap)) = some (d, h') → ∃ b, d = .bl b := fun z => by
    obtain ⟨b, e1, e2⟩ := Option.map_eq_some_iff.mp z
    cases e2
    exact ⟨b, rfl⟩
  unfold Ev.cmpE at e
  split at e
  · split at e
    · split at e
      · split at e
        · split at e
          · cases e; exact ⟨_, rfl⟩
          · cases e
        · cases e
      · cases e
    · split at e
      · split at e
        · split at e
          · cases e; exact ⟨_, rfl⟩
          · cases e
        · cases e
      · cases e
    · exact fin e
  · exact fin e
/-- ==, != and the like of any two values -/
theorem sf_cmpE {S : Stc} {L : Lx} {X : Cx} (ok : XOk S tab fuel T0 k L X) {o : Ev.COp} {x y d : Ev.D} {vx vy : V} {h h' : Ev.Heap} {σ : L2.St} {H : Hp} {ι : List Addr} (e : Ev.cmpE (cxE tab fuel k) o x y h = some (d, h')) (R : Rep X.K S.cls H ι h) (rx : RV X.K H ι x vx) (ry : RV X.K H ι y vy) :
    (∃ b, d = .bl b) ∧ SF2 X (compareOp (cO o)) vx vy σ H (PQ X.K S.cls H ι d h') := by
  have fin : ((Ev.cmpV o x y h).map fun b => ((Ev.D.bl b, h) : Ev.D × Ev.Heap)) = some (d, h') → (∃ b, d = .bl b) ∧ SF2 X (compareOp (cO o)) vx vy σ H (PQ X.K S.cls H ι d h') := fun z => by
    obtain ⟨b, e1, e2⟩ := Option.map_eq_some_iff.mp z
    cases e2
    exact ⟨⟨b, rfl⟩, sf_cmp ok.hu e1 R rx ry⟩
  unfold Ev.cmpE at e
  split at e
  · rename_i a
    obtain ⟨pa, rfl, hpa, hcell⟩ := R.of_ref rx
    have own : ∀ (c : Nat) (fs : List (Ev.Nm × Ev.D)) (cd : Ev.CD) (i : Nat), h.get a = some (.obj c fs) → tab.clss[c]? = some cd → cd.eq = some i → ∀ (b : Bool) (h2 : Ev.Heap), Ev.callDef (cxE tab fuel k) i [.ref a] [] [y] h = some (.bl b, h2) →
        ∀ (pins : List (Addr × Obj)) (s : Shared) (u : Value), TB X s → Inv X pins σ H s → RelV vy u → ∃ (C g dx : Addr) (m : Str → Option Value) (ox : Obj) (od : Option Obj) (tb : Value), PySem.W.InstAt s.heap pa ox C od ∧ PySem.W.Looks (model X.prog X.w) s.heap (typeOf u) tb ∧ PySem.W.notFirst X.K C tb = true ∧ PySem.W.mroIn X.K C (.type "object") = some true ∧
          PySem.W.findIn X.K (.ref C) "__ne__" = some (some (.builtin "object.__ne__")) ∧ PySem.W.findIn X.K (.ref C) "__eq__" = some (some (.ref g)) ∧ PySem.W.isFn X.K (.ref g) = true ∧
          ∀ (A : Around), Room (2 * k) A → A.guards = some [] → A.frames = X.A.frames → wpAny (model X.prog X.w) A (call (.ref g) [.ref pa, u]) (EP X pins σ (PQ X.K S.cls H ι (.bl b) h2)) X.xe s := by
      intro c fs cd i hg hcd heq b h2 ec pins s u tb I ru
      obtain ⟨C, dx, gs, hC, hH, _⟩ := hcell _ hg
      obtain ⟨g, fd, ps, D, mt, dk, hne⟩ := ok.gl.eqs _ _ _ _ hC hcd heq
      obtain ⟨mA, J, _⟩ := ins_get I.hok hH
      obtain ⟨od, J, _⟩ := J.look
      obtain ⟨ty, tyx, hty⟩ := tyx_of ok.gl R ry
      obtain ⟨P, Z, pp, _⟩ := kit_of I ru tyx
      have nf : PySem.W.notFirst X.K C ty = true := by
        unfold PySem.W.notFirst
        rcases hty with ⟨T, hT, rfl⟩ | ⟨c2, C2, rfl, hC2⟩
        · rw [not_first hT]; simp
        · by_cases ecc : c = c2
          · subst ecc
            rw [hC] at hC2
            cases hC2
            simp
          · rw [ok.gl.subs _ _ _ _ hC hC2 ecc]; simp
      refine ⟨C, g, dx, mA, _, od, ty, J, Z.ty _ _ I.kIn pp, nf, (ok.gl.ins _ _ hC).mr, hne, mt.at_, mt.fn, fun A hr hgd hfr => ?_⟩
      unfold Ev.callDef at ec
      split at ec
      · rename_i D' hD
        split at ec
        · rename_i ds eb
          have hD : tab.defs[i]? = some D' := hD
          have := dk.df
          rw [hD] at this; cases this
          have eb : Ev.bindA D.sig [.ref a, y] [] = some ds := by
            have e0 : Ev.splitK [] [y] = ([y], []) := rfl
            rw [e0] at eb
            exact eb
          obtain ⟨zs, r, hl, bd⟩ := bind_ok I.kIn dk.sg (pos := [.ref a, y]) (us := [.ref pa, u]) (kws := []) (kws' := []) (.cons ⟨.ref pa, rx, rfl⟩ (.cons ⟨vy, ry, ru⟩ .nil)) .nil eb
          obtain ⟨vs, rv, rz⟩ := ru_vals r
          have env : Env0 X.prog X.w X.K X.mg X.base A X.stack s H := by
            have e := I.env0
            exact ⟨hfr.trans e.frames, e.mod, e.bs, e.bsz, e.funs, e.frf, e.hok, e.bare⟩
          refine wpAny_call (codeAny_mono (ok.g.run i g fd ps dk.at_ A X.stack s H ι h ⟨[.ref pa, u], []⟩ zs vs ds (.bl b) h2 hr hgd env (Nat.le_trans ok.g.t0 tb) bd rz hl rv R ec) fun r s' hq => ?_)
          cases r with
          | error e => exact False.elim hq
          | ok fl =>
            cases fl with
            | ret u => exact I.after hq
            | next => exact False.elim hq
            | brk => exact False.elim hq
            | cont => exact False.elim hq
        · cases ec
      · cases ec
    split at e
    · rename_i c fs hg
      split at e
      · rename_i cd hcd
        split at e
        · rename_i i heq
          split at e
          · rename_i b h2 ec
            cases e
            refine ⟨⟨b, rfl⟩, fun pins s v u tb I r1 r2 => ?_⟩
            obtain rfl : v = Value.ref pa := r1
            obtain ⟨C, g, dx, m, ox, od, ty, J, lk, nf, mr, hne, he, hf, run⟩ := own c fs cd i hg hcd heq b _ ec pins s u tb I r2
            obtain ⟨mm, hF⟩ := I.fr
            show wpAny (model X.prog X.w) X.A (richCompare .Eq (.ref pa) u) _ X.xe s
            refine PySem.W.cmp_K (op := .Eq) (tb := ty) (by have := ok.hu; omega) hF I.ok.mod.kin J lk nf he hf ?_
            exact thn (run X.A (ok.g.room.mono (Nat.le_succ _)) ok.g.gd rfl) fun w s' z => by
              obtain ⟨zv, H', I', rz, q⟩ := z
              exact rel_not rz ⟨zv, H', I', rz, q⟩
          · cases e
        · cases e
      · cases e
    · rename_i c fs hg
      split at e
      · rename_i cd hcd
        split at e
        · rename_i i heq
          split at e
          · rename_i b h2 ec
            cases e
            refine ⟨⟨!b, rfl⟩, fun pins s v u tb I r1 r2 => ?_⟩
            obtain rfl : v = Value.ref pa := r1
            obtain ⟨C, g, dx, m, ox, od, ty, J, lk, nf, mr, hne, he, hf, run⟩ := own c fs cd i hg hcd heq b _ ec pins s u tb I r2
            show wpAny (model X.prog X.w) X.A (richCompare .NotEq (.ref pa) u) _ X.xe s
            refine rich_ne (by have := ok.hu; omega) I.kIn J lk nf mr hne he hf ?_
            exact thn (run X.A.in1 (Room.in1 ok.g.room) (guards_in1 ok.g.gd) rfl) fun w s' z => by
              obtain ⟨zv, H', I', rz, ι', p', k', R', q⟩ := z
              have := q.blv
              subst this
              obtain rfl : w = Value.bool b := rz
              exact ⟨b, rfl, .bl (!b), H', I', rfl, ι', p', k', R', .bl _⟩
          · cases e
        · cases e
      · cases e
    · exact fin e
  · exact fin e
theorem g_cmp {o : Ev.COp} (ga : GE S tab fuel T0 k a) (gb : GE S tab fuel T0 k b) : GE S tab fuel T0 k (.cmp o a b) := by
  refine ⟨fun L X x hc ok σ H ι v h h' d rv R ev => ?_, fun L X x hc ok σ H ι v h h' d b rv R ev tr => ?_, fun L X xs pos hc => absurd hc (by simp only [cAnd]; exact Bool.false_ne_true), fun L X xs pos hc => absurd hc (by simp only [cOr]; exact Bool.false_ne_true)⟩
  · simp only [cE] at hc
    split at hc
    · simp only [Bool.and_eq_true, beq_iff_eq] at hc
      obtain ⟨⟨⟨eo, c0⟩, c1⟩, c2⟩ := hc
      subst eo
      simp only [Ev.evE] at ev
      split at ev
      · rename_i x1 h1 e1
        split at ev
        · rename_i y1 h2 e2
          refine se_cmp ((ga.se L X _ c1 ok σ H ι v h h1 x1 rv R e1).imp fun vx H1 ⟨ι1, p1, k1, R1, r1⟩ => (gb.se L X _ c2 ok σ H1 ι1 v h1 _ y1 (REnv.mono k1 p1 rv) R1 e2).imp fun vy H2 ⟨ι2, p2, k2, R2, r2⟩ => ?_) (notSet_marks _ c0)
          exact (sf_cmpE ok ev R2 (r1.mono k2 p2) r2).2.imp fun z H3 q => q.after (p1.trans p2) (k1.trans k2)
        · cases ev
      · cases ev
    · cases hc
  · simp only [cE] at hc
    split at hc
    · simp only [Bool.and_eq_true, beq_iff_eq] at hc
      obtain ⟨⟨⟨eo, c0⟩, c1⟩, c2⟩ := hc
      subst eo
      simp only [Ev.evE] at ev
      split at ev
      · rename_i x1 h1 e1
        split at ev
        · rename_i y1 h2 e2
          obtain ⟨b0, rfl⟩ : ∃ b, d = .bl b := by
            have key : ∀ {X' : Ev.Cx} {o : Ev.COp} {x y d : Ev.D} {h h' : Ev.Heap}, Ev.cmpE X' o x y h = some (d, h') → ∃ b, d = .bl b := cmp_bl
            exact key ev
          cases tr
          refine sb_cmp ((ga.se L X _ c1 ok σ H ι v h h1 x1 rv R e1).imp fun vx H1 ⟨ι1, p1, k1, R1, r1⟩ => (gb.se L X _ c2 ok σ H1 ι1 v h1 _ y1 (REnv.mono k1 p1 rv) R1 e2).imp fun vy H2 ⟨ι2, p2, k2, R2, r2⟩ => ?_) (notSet_marks _ c0)
          exact (sf_cmpE ok ev R2 (r1.mono k2 p2) r2).2.imp fun z H3 ⟨ι3, p3, k3, R3, r3⟩ => ⟨_, r3.blv, rfl, ι3, (p1.trans p2).trans p3, (k1.trans k2).trans k3, R3⟩
        · cases ev
      · cases ev
    · cases hc
theorem g_chain {o p : Ev.COp} (ga : GE S tab fuel T0 k a) (gb : GE S tab fuel T0 k b) (gc : GE S tab fuel T0 k c) : GE S tab fuel T0 k (.chain o p a b c) := by
  refine ⟨fun L X x hc ok σ H ι v h h' d rv R ev => ?_, fun L X x hc ok σ H ι v h h' d b rv R ev tr => ?_, fun L X xs pos hc => absurd hc (by simp only [cAnd]; exact Bool.false_ne_true), fun L X xs pos hc => absurd hc (by simp only [cOr]; exact Bool.false_ne_true)⟩
  · simp only [cE] at hc
    split at hc
    · simp only [Bool.and_eq_true, beq_iff_eq] at hc
      obtain ⟨⟨⟨⟨⟨eo, ep⟩, c0⟩, c1⟩, c2⟩, c3⟩ := hc
      subst eo ep
      simp only [Ev.evE] at ev
      split at ev
      · rename_i x1 h1 e1
        split at ev
        · rename_i y1 h2 e2
          refine se_chain ((ga.se L X _ c1 ok σ H ι v h h1 x1 rv R e1).imp fun vx H1 ⟨ι1, p1, k1, R1, r1⟩ => (gb.se L X _ c2 ok σ H1 ι1 v h1 _ y1 (REnv.mono k1 p1 rv) R1 e2).imp fun vy H2 ⟨ι2, p2, k2, R2, r2⟩ => ?_) (notSet_last _ _ c0)
          split at ev
          · rename_i e3
            refine (sf_cmp ok.hu e3 R2 (r1.mono k2 p2) r2).imp fun z H3 ⟨ι3, p3, k3, R3, r3⟩ => ⟨true, r3.blv, ?_⟩
            rw [if_pos rfl]
            split at ev
            · rename_i z1 h3 e4
              obtain ⟨b, e5, e6⟩ := Option.map_eq_some_iff.mp ev
              cases e6
              refine (gc.se L X _ c3 ok σ H3 ι3 v h2 _ z1 (REnv.mono ((k1.trans k2).trans k3) ((p1.trans p2).trans p3) rv) R3 e4).imp fun vz H4 ⟨ι4, p4, k4, R4, r4⟩ => ?_
              exact (sf_cmp ok.hu e5 R4 (r2.mono (k3.trans k4) (p3.trans p4)) r4).imp fun z H5 q => q.after (((p1.trans p2).trans p3).trans p4) (((k1.trans k2).trans k3).trans k4)
            · cases ev
          · rename_i e3
            cases ev
            refine (sf_cmp ok.hu e3 R2 (r1.mono k2 p2) r2).imp fun z H3 ⟨ι3, p3, k3, R3, r3⟩ => ⟨false, r3.blv, ?_⟩
            rw [if_neg Bool.false_ne_true]
            exact ⟨ι3, (p1.trans p2).trans p3, (k1.trans k2).trans k3, R3, .bl _⟩
          · cases ev
        · cases ev
      · cases ev
    · cases hc
  · simp only [cE] at hc
    split at hc
    · simp only [Bool.and_eq_true, beq_iff_eq] at hc
      obtain ⟨⟨⟨⟨⟨eo, ep⟩, c0⟩, c1⟩, c2⟩, c3⟩ := hc
      subst eo ep
      simp only [Ev.evE] at ev
      split at ev
      · rename_i x1 h1 e1
        split at ev
        · rename_i y1 h2 e2
          refine sb_chain ((ga.se L X _ c1 ok σ H ι v h h1 x1 rv R e1).imp fun vx H1 ⟨ι1, p1, k1, R1, r1⟩ => (gb.se L X _ c2 ok σ H1 ι1 v h1 _ y1 (REnv.mono k1 p1 rv) R1 e2).imp fun vy H2 ⟨ι2, p2, k2, R2, r2⟩ => ?_) (notSet_last _ _ c0)
          split at ev
          · rename_i e3
            refine (sf_cmp ok.hu e3 R2 (r1.mono k2 p2) r2).imp fun z H3 ⟨ι3, p3, k3, R3, r3⟩ => ⟨true, r3.blv, ?_⟩
            rw [if_pos rfl]
            split at ev
            · rename_i z1 h3 e4
              obtain ⟨b, e5, e6⟩ := Option.map_eq_some_iff.mp ev
              cases e6
              cases tr
              refine (gc.se L X _ c3 ok σ H3 ι3 v h2 _ z1 (REnv.mono ((k1.trans k2).trans k3) ((p1.trans p2).trans p3) rv) R3 e4).imp fun vz H4 ⟨ι4, p4, k4, R4, r4⟩ => ?_
              exact (sf_cmp ok.hu e5 R4 (r2.mono (k3.trans k4) (p3.trans p4)) r4).imp fun z H5 ⟨ι5, p5, k5, R5, r5⟩ => ⟨b, r5.blv, rfl, ι5, (((p1.trans p2).trans p3).trans p4).trans p5, (((k1.trans k2).trans k3).trans k4).trans k5, R5⟩
            · cases ev
          · rename_i e3
            cases ev
            cases tr
            refine (sf_cmp ok.hu e3 R2 (r1.mono k2 p2) r2).imp fun z H3 ⟨ι3, p3, k3, R3, r3⟩ => ⟨false, r3.blv, ?_⟩
            rw [if_neg Bool.false_ne_true]
            exact ⟨rfl, ι3, (p1.trans p2).trans p3, (k1.trans k2).trans k3, R3⟩
          · cases ev
        · cases ev
      · cases ev
    · cases hc
end
end EvS
set_option Elab.async false
set_option linter.all false
set_option maxRecDepth 100000
set_option maxHeartbeats 1000000
/-! EvU: and, or, if-else, places, displays, rows of expressions. -/
namespace EvS
open PySem PySem.Spec PyProof.Rows L2
section
variable {S : Stc} {tab : Ev.Tab} {fuel T0 k : Nat} {a b c : Ev.E} {L : Lx} {X : Cx}

theorem and_go {x y : Expr} {r : List Expr} {pos : Pos} (ga : GE S tab fuel T0 k a) (ca : cE L a x = true) (ok : XOk S tab fuel T0 k L X) {v : Ev.Env}
    (rest : ∀ (σ : L2.St) (H : Hp) (ι : List Addr) (h h' : Ev.Heap) (d : Ev.D), REnv X.K H ι v σ → Rep X.K S.cls H ι h → Ev.evE (cxE tab fuel k) b v h = some (d, h') →
      SE X (.BoolOp .And (y :: r) pos) σ H (PQ X.K S.cls H ι d h') ∧ ∀ t, Ev.truth h' d = some t → SW X (.BoolOp .And (y :: r) pos) σ H fun c H' => c = t ∧ HQ X.K S.cls H ι h' H')
    (σ : L2.St) (H : Hp) (ι : List Addr) (h h' : Ev.Heap) (d : Ev.D) (rv : REnv X.K H ι v σ) (R : Rep X.K S.cls H ι h) (ev : Ev.evE (cxE tab fuel k) (.and a b) v h = some (d, h')) :
    SE X (.BoolOp .And (x :: y :: r) pos) σ H (PQ X.K S.cls H ι d h') ∧ ∀ t, Ev.truth h' d = some t → SW X (.BoolOp .And (x :: y :: r) pos) σ H fun c H' => c = t ∧ HQ X.K S.cls H ι h' H' := by
  simp only [Ev.evE] at ev
  split at ev
  · rename_i x1 h1 e1
    split at ev
    · rename_i e2
      refine ⟨se_and ((ga.se L X _ ca ok σ H ι v h h1 x1 rv R e1).imp fun vx H1 ⟨ι1, p1, k1, R1, r1⟩ => ⟨true, tru_of e2 R1 r1, ?_⟩), fun t ht => sw_and ((ga.sb L X _ ca ok σ H ι v h h1 x1 true rv R e1 e2).imp fun c H1 ⟨ec, ι1, p1, k1, R1⟩ => ?_)⟩
      · rw [if_pos rfl]
        exact (rest σ H1 ι1 h1 h' d (REnv.mono k1 p1 rv) R1 ev).1.imp fun z H2 q => q.after p1 k1
      · subst ec
        rw [if_pos rfl]
        intro w pins s tb I
        exact thn ((rest σ H1 ι1 h1 h' d (REnv.mono k1 p1 rv) R1 ev).2 t ht w pins s tb I) fun c s2 ⟨H2, I2, ec, q⟩ => ⟨H2, I2, ec, q.after p1 k1⟩
    · rename_i e2
      cases ev
      refine ⟨se_and ((ga.se L X _ ca ok σ H ι v h h' d rv R e1).imp fun vx H1 ⟨ι1, p1, k1, R1, r1⟩ => ⟨false, tru_of e2 R1 r1, ?_⟩), fun t ht => sw_and ((ga.sb L X _ ca ok σ H ι v h h' d false rv R e1 e2).imp fun c H1 ⟨ec, ι1, p1, k1, R1⟩ => ?_)⟩
      · rw [if_neg Bool.false_ne_true]
        exact ⟨ι1, p1, k1, R1, r1⟩
      · subst ec
        rw [e2] at ht
        cases ht
        rw [if_neg Bool.false_ne_true]
        exact ⟨rfl, ι1, p1, k1, R1⟩
    · cases ev
  · cases ev
theorem or_go {x y : Expr} {r : List Expr} {pos : Pos} (ga : GE S tab fuel T0 k a) (ca : cE L a x = true) (ok : XOk S tab fuel T0 k L X) {v : Ev.Env}
    (rest : ∀ (σ : L2.St) (H : Hp) (ι : List Addr) (h h' : Ev.Heap) (d : Ev.D), REnv X.K H ι v σ → Rep X.K S.cls H ι h → Ev.evE (cxE tab fuel k) b v h = some (d, h') →
      SE X (.BoolOp .Or (y :: r) pos) σ H (PQ X.K S.cls H ι d h') ∧ ∀ t, Ev.truth h' d = some t → SW X (.BoolOp .Or (y :: r) pos) σ H fun c H' => c = t ∧ HQ X.K S.cls H ι h' H')
    (σ : L2.St) (H : Hp) (ι : List Addr) (h h' : Ev.Heap) (d : Ev.D) (rv : REnv X.K H ι v σ) (R : Rep X.K S.cls H ι h) (ev : Ev.evE (cxE tab fuel k) (.or a b) v h = some (d, h')) :
    SE X (.BoolOp .Or (x :: y :: r) pos) σ H (PQ X.K S.cls H ι d h') ∧ ∀ t, Ev.truth h' d = some t → SW X (.BoolOp .Or (x :: y :: r) pos) σ H fun c H' => c = t ∧ HQ X.K S.cls H ι h' H' := by
  simp only [Ev.evE] at ev
  split at ev
  · rename_i x1 h1 e1
    split at ev
    · rename_i e2
      cases ev
      refine ⟨se_or ((ga.se L X _ ca ok σ H ι v h h' d rv R e1).imp fun vx H1 ⟨ι1, p1, k1, R1, r1⟩ => ⟨true, tru_of e2 R1 r1, ?_⟩), fun t ht => sw_or ((ga.sb L X _ ca ok σ H ι v h h' d true rv R e1 e2).imp fun c H1 ⟨ec, ι1, p1, k1, R1⟩ => ?_)⟩
      · rw [if_pos rfl]
        exact ⟨ι1, p1, k1, R1, r1⟩
      · subst ec
        rw [e2] at ht
        cases ht
        rw [if_pos rfl]
        exact ⟨rfl, ι1, p1, k1, R1⟩
    · rename_i e2
      refine ⟨se_or ((ga.se L X _ ca ok σ H ι v h h1 x1 rv R e1).imp fun vx H1 ⟨ι1, p1, k1, R1, r1⟩ => ⟨false, tru_of e2 R1 r1, ?_⟩), fun t ht => sw_or ((ga.sb L X _ ca ok σ H ι v h h1 x1 false rv R e1 e2).imp fun c H1 ⟨ec, ι1, p1, k1, R1⟩ => ?_)⟩
      · rw [if_neg Bool.false_ne_true]
        exact (rest σ H1 ι1 h1 h' d (REnv.mono k1 p1 rv) R1 ev).1.imp fun z H2 q => q.after p1 k1
      · subst ec
        rw [if_neg Bool.false_ne_true]
        intro w pins s tb I
        exact thn ((rest σ H1 ι1 h1 h' d (REnv.mono k1 p1 rv) R1 ev).2 t ht w pins s tb I) fun c s2 ⟨H2, I2, ec, q⟩ => ⟨H2, I2, ec, q.after p1 k1⟩
    · cases ev
  · cases ev
theorem and_j (ga : GE S tab fuel T0 k a) (gb : GE S tab fuel T0 k b) : OkJ S tab fuel T0 k .And cAnd (.and a b) := fun L X xs pos hc ok σ H ι v h h' d rv R ev => by
  simp only [cAnd] at hc
  split at hc
  · rename_i x y
    rw [Bool.and_eq_true] at hc
    exact and_go ga hc.1 ok (fun σ H ι h h' d rv R ev => ⟨se_one (gb.se L X y hc.2 ok σ H ι v h h' d rv R ev), fun t ht => sw_and1 (gb.sb L X y hc.2 ok σ H ι v h h' d t rv R ev ht)⟩) σ H ι h h' d rv R ev
  · rename_i x y z r
    rw [Bool.and_eq_true] at hc
    exact and_go ga hc.1 ok (fun σ H ι h h' d rv R ev => gb.and_ L X (y :: z :: r) pos hc.2 ok σ H ι v h h' d rv R ev) σ H ι h h' d rv R ev
  · cases hc
theorem or_j (ga : GE S tab fuel T0 k a) (gb : GE S tab fuel T0 k b) : OkJ S tab fuel T0 k .Or cOr (.or a b) := fun L X xs pos hc ok σ H ι v h h' d rv R ev => by
  simp only [cOr] at hc
  split at hc
  · rename_i x y
    rw [Bool.and_eq_true] at hc
    exact or_go ga hc.1 ok (fun σ H ι h h' d rv R ev => ⟨se_one (gb.se L X y hc.2 ok σ H ι v h h' d rv R ev), fun t ht => sw_or1 (gb.sb L X y hc.2 ok σ H ι v h h' d t rv R ev ht)⟩) σ H ι h h' d rv R ev
  · rename_i x y z r
    rw [Bool.and_eq_true] at hc
    exact or_go ga hc.1 ok (fun σ H ι h h' d rv R ev => gb.or_ L X (y :: z :: r) pos hc.2 ok σ H ι v h h' d rv R ev) σ H ι h h' d rv R ev
  · cases hc
theorem and_text {L : Lx} {x : Expr} (h : cE L (.and a b) x = true) : ∃ xs pos, x = .BoolOp .And xs pos ∧ cAnd L (.and a b) xs = true := by
  simp only [cE] at h
  split at h
  · exact ⟨_, _, rfl, by simp only [cAnd]; exact h⟩
  · exact ⟨_, _, rfl, by simp only [cAnd]; exact h⟩
  · cases h
theorem or_text {L : Lx} {x : Expr} (h : cE L (.or a b) x = true) : ∃ xs pos, x = .BoolOp .Or xs pos ∧ cOr L (.or a b) xs = true := by
  simp only [cE] at h
  split at h
  · exact ⟨_, _, rfl, by simp only [cOr]; exact h⟩
  · exact ⟨_, _, rfl, by simp only [cOr]; exact h⟩
  · cases h
theorem g_and (ga : GE S tab fuel T0 k a) (gb : GE S tab fuel T0 k b) : GE S tab fuel T0 k (.and a b) where
  se := fun L X x hc ok σ H ι v h h' d rv R ev => by
    obtain ⟨xs, pos, rfl, c⟩ := and_text hc
    exact (and_j ga gb L X xs pos c ok σ H ι v h h' d rv R ev).1
  sb := fun L X x hc ok σ H ι v h h' d t rv R ev ht => by
    obtain ⟨xs, pos, rfl, c⟩ := and_text hc
    exact ((and_j ga gb L X xs pos c ok σ H ι v h h' d rv R ev).2 t ht).sb
  and_ := and_j ga gb
  or_ := fun L X xs pos hc => absurd hc (by simp only [cOr]; exact Bool.false_ne_true)
theorem g_or (ga : GE S tab fuel T0 k a) (gb : GE S tab fuel T0 k b) : GE S tab fuel T0 k (.or a b) where
  se := fun L X x hc ok σ H ι v h h' d rv R ev => by
    obtain ⟨xs, pos, rfl, c⟩ := or_text hc
    exact (or_j ga gb L X xs pos c ok σ H ι v h h' d rv R ev).1
  sb := fun L X x hc ok σ H ι v h h' d t rv R ev ht => by
    obtain ⟨xs, pos, rfl, c⟩ := or_text hc
    exact ((or_j ga gb L X xs pos c ok σ H ι v h h' d rv R ev).2 t ht).sb
  and_ := fun L X xs pos hc => absurd hc (by simp only [cAnd]; exact Bool.false_ne_true)
  or_ := or_j ga gb
theorem sb_ite {x y z : Expr} {pos : Pos} {σ : L2.St} {H : Hp} {QB : Bool → Hp → Prop} (h : SB X x σ H fun k H1 => if k = true then SB X y σ H1 QB else SB X z σ H1 QB) : SB X (.IfExp x y z pos) σ H QB :=
  fun pins s tb I => isTrue_IfExp (thk tb (h pins s tb I) fun k s1 t1 ⟨H1, I1, z⟩ => by
    cases k with
    | true => exact z pins s1 t1 I1
    | false => exact z pins s1 t1 I1)
theorem g_ite (gc : GE S tab fuel T0 k c) (ga : GE S tab fuel T0 k a) (gb : GE S tab fuel T0 k b) : GE S tab fuel T0 k (.ite c a b) := by
  refine ⟨fun L X x hc ok σ H ι v h h' d rv R ev => ?_, fun L X x hc ok σ H ι v h h' d t rv R ev tr => ?_, fun L X xs pos hc => absurd hc (by simp only [cAnd]; exact Bool.false_ne_true), fun L X xs pos hc => absurd hc (by simp only [cOr]; exact Bool.false_ne_true)⟩
  · simp only [cE] at hc
    split at hc
    · simp only [Bool.and_eq_true] at hc
      obtain ⟨⟨c1, c2⟩, c3⟩ := hc
      simp only [Ev.evE] at ev
      split at ev
      · rename_i x1 h1 e1
        split at ev
        · rename_i e2
          refine se_ite ((gc.sb L X _ c1 ok σ H ι v h h1 x1 true rv R e1 e2).imp fun c H1 ⟨ec, ι1, p1, k1, R1⟩ => ?_)
          rw [if_pos ec]
          exact (ga.se L X _ c2 ok σ H1 ι1 v h1 h' d (REnv.mono k1 p1 rv) R1 ev).imp fun z H2 q => q.after p1 k1
        · rename_i e2
          refine se_ite ((gc.sb L X _ c1 ok σ H ι v h h1 x1 false rv R e1 e2).imp fun c H1 ⟨ec, ι1, p1, k1, R1⟩ => ?_)
          rw [if_neg (by rw [ec]; exact Bool.false_ne_true)]
          exact (gb.se L X _ c3 ok σ H1 ι1 v h1 h' d (REnv.mono k1 p1 rv) R1 ev).imp fun z H2 q => q.after p1 k1
        · cases ev
      · cases ev
    · cases hc
  · simp only [cE] at hc
    split at hc
    · simp only [Bool.and_eq_true] at hc
      obtain ⟨⟨c1, c2⟩, c3⟩ := hc
      simp only [Ev.evE] at ev
      split at ev
      · rename_i x1 h1 e1
        split at ev
        · rename_i e2
          refine sb_ite ((gc.sb L X _ c1 ok σ H ι v h h1 x1 true rv R e1 e2).imp fun c H1 ⟨ec, ι1, p1, k1, R1⟩ => ?_)
          rw [if_pos ec]
          exact (ga.sb L X _ c2 ok σ H1 ι1 v h1 h' d t (REnv.mono k1 p1 rv) R1 ev tr).imp fun z H2 ⟨e, q⟩ => ⟨e, q.after p1 k1⟩
        · rename_i e2
          refine sb_ite ((gc.sb L X _ c1 ok σ H ι v h h1 x1 false rv R e1 e2).imp fun c H1 ⟨ec, ι1, p1, k1, R1⟩ => ?_)
          rw [if_neg (by rw [ec]; exact Bool.false_ne_true)]
          exact (gb.sb L X _ c3 ok σ H1 ι1 v h1 h' d t (REnv.mono k1 p1 rv) R1 ev tr).imp fun z H2 ⟨e, q⟩ => ⟨e, q.after p1 k1⟩
        · cases ev
      · cases ev
    · cases hc
theorem g_idx (ga : GE S tab fuel T0 k a) (gb : GE S tab fuel T0 k b) : GE S tab fuel T0 k (.idx a b) := by
  refine .plain (fun L X x hc ok σ H ι v h h' d rv R ev => ?_) (fun L x hc => ?_) (fun _ _ => by simp only [cAnd]) (fun _ _ => by simp only [cOr])
  · simp only [cE] at hc
    split at hc
    · simp only [Bool.and_eq_true] at hc
      obtain ⟨⟨c0, c1⟩, c2⟩ := hc
      simp only [Ev.evE] at ev
      split at ev
      · rename_i x1 h1 e1
        split at ev
        · rename_i y1 h2 e2
          obtain ⟨d', e3, e4⟩ := Option.map_eq_some_iff.mp ev
          cases e4
          refine se_idx ((ga.se L X _ c1 ok σ H ι v h h1 x1 rv R e1).imp fun vx H1 ⟨ι1, p1, k1, R1, r1⟩ => (gb.se L X _ c2 ok σ H1 ι1 v h1 h' y1 (REnv.mono k1 p1 rv) R1 e2).imp fun vy H2 ⟨ι2, p2, k2, R2, r2⟩ => ?_) (notSlice_ix c0)
          exact IX.imp (ix_ok ok.hu e3 R2 (r1.mono k2 p2) r2) fun z H3 q => q.after (p1.trans p2) (k1.trans k2)
        · cases ev
      · cases ev
    · cases hc
  · simp only [cE] at hc
    split at hc
    · rfl
    · cases hc
theorem g_slc {lo hi : Ev.Eo} (ga : GE S tab fuel T0 k a) (gl : GO S tab fuel T0 k lo) (gh : GO S tab fuel T0 k hi) : GE S tab fuel T0 k (.slc a lo hi) := by
  refine .plain (fun L X x hc ok σ H ι v h h' d rv R ev => ?_) (fun L x hc => ?_) (fun _ _ => by simp only [cAnd]) (fun _ _ => by simp only [cOr])
  · simp only [cE] at hc
    split at hc
    · simp only [Bool.and_eq_true] at hc
      obtain ⟨⟨c1, c2⟩, c3⟩ := hc
      simp only [Ev.evE] at ev
      split at ev
      · rename_i x1 h1 e1
        split at ev
        · rename_i l h2 e2
          split at ev
          · rename_i u h3 e3
            refine se_slc ((ga.se L X _ c1 ok σ H ι v h h1 x1 rv R e1).imp fun vx H1 ⟨ι1, p1, k1, R1, r1⟩ => (gl.so L X _ c2 ok σ H1 ι1 v h1 h2 l (REnv.mono k1 p1 rv) R1 e2).imp fun o2 H2 ⟨eo2, ι2, p2, k2, R2⟩ =>
              (gh.so L X _ c3 ok σ H2 ι2 v h2 h3 u (REnv.mono (k1.trans k2) (p1.trans p2) rv) R2 e3).imp fun o3 H3 ⟨eo3, ι3, p3, k3, R3⟩ => ?_)
            subst eo2 eo3
            exact sl_ok ev R3 (r1.mono (k2.trans k3) (p2.trans p3)) fun z H4 q => q.after ((p1.trans p2).trans p3) ((k1.trans k2).trans k3)
          · cases ev
        · cases ev
      · cases ev
    · cases hc
  · simp only [cE] at hc
    split at hc
    · rfl
    · cases hc
theorem g_fld {f : Ev.Nm} (ga : GE S tab fuel T0 k a) : GE S tab fuel T0 k (.fld a f) := by
  refine .plain (fun L X x hc ok σ H ι v h h' d rv R ev => ?_) (fun L x hc => ?_) (fun _ _ => by simp only [cAnd]) (fun _ _ => by simp only [cOr])
  · simp only [cE] at hc
    split at hc
    · simp only [Bool.and_eq_true, beq_iff_eq] at hc
      obtain ⟨⟨⟨en, c1⟩, c2⟩, c3⟩ := hc
      subst en
      simp only [Ev.evE] at ev
      split at ev
      · rename_i x1 h1 e1
        obtain ⟨d', e3, e4⟩ := Option.map_eq_some_iff.mp ev
        cases e4
        refine se_fld (noSup_base _ _ _ c2) ((ga.se L X _ c3 ok σ H ι v h h' x1 rv R e1).imp fun vx H1 ⟨ι1, p1, k1, R1, r1⟩ => ?_)
        obtain ⟨p, i, C, dx, gs, y, e5, e6, e7, e8, r⟩ := fld_ok e3 R1 r1
        exact ⟨p, C, dx, gs, y, e5, e7, ok.gl.cls _ _ e6, ok.gl.noat _ _ _ e6 c1, e8, ι1, p1, k1, R1, r⟩
      · cases ev
    · cases hc
  · simp only [cE] at hc
    split at hc
    · rfl
    · cases hc
theorem g_tup {es : Ev.Es} (ge : GEs S tab fuel T0 k es) : GE S tab fuel T0 k (.tup es) := by
  refine .plain (fun L X x hc ok σ H ι v h h' d rv R ev => ?_) (fun L x hc => ?_) (fun _ _ => by simp only [cAnd]) (fun _ _ => by simp only [cOr])
  · simp only [cE] at hc
    split at hc
    · rw [Bool.and_eq_true] at hc
      simp only [Ev.evE] at ev
      split at ev
      · rename_i xs h1 e1
        split at ev
        · rename_i hl
          cases ev
          refine se_tup ?_
          refine (ge.sa L X _ hc.1 hc.2 ok σ H ι v h h' xs rv R e1).imp fun vs H1 ⟨ι1, p1, k1, R1, r1⟩ => ⟨by rw [r1.length, ← LINE_eq]; exact hl, fun p hp => ?_⟩
          exact (PQ.tup R1 hp r1).after p1 k1
        · cases ev
      · cases ev
    · cases hc
  · simp only [cE] at hc
    split at hc
    · rfl
    · cases hc
theorem g_lst {es : Ev.Es} (ge : GEs S tab fuel T0 k es) : GE S tab fuel T0 k (.lst es) := by
  refine .plain (fun L X x hc ok σ H ι v h h' d rv R ev => ?_) (fun L x hc => ?_) (fun _ _ => by simp only [cAnd]) (fun _ _ => by simp only [cOr])
  · simp only [cE] at hc
    split at hc
    · rw [Bool.and_eq_true] at hc
      simp only [Ev.evE] at ev
      split at ev
      · rename_i xs h1 e1
        split at ev
        · rename_i hl
          cases ev
          refine se_lst ?_
          refine (ge.sa L X _ hc.1 hc.2 ok σ H ι v h h1 xs rv R e1).imp fun vs H1 ⟨ι1, p1, k1, R1, r1⟩ => ⟨by rw [r1.length, ← LINE_eq]; exact hl, fun p hp => ?_⟩
          exact (PQ.list R1 hp r1).after p1 k1
        · cases ev
      · cases ev
    · cases hc
  · simp only [cE] at hc
    split at hc
    · rfl
    · cases hc

/-! ### rows -/
theorem g_no : GO S tab fuel T0 k .no where
  so := fun L X x hc ok σ H ι v h h' d rv R ev => by
    simp only [cO'] at hc
    split at hc
    · simp only [Ev.evO] at ev
      cases ev
      exact so_none ⟨rfl, ι, .refl _, .refl _, R⟩
    · cases hc
  sc := fun L X xs hc ok σ H ι v h h' b rv R ev => by
    simp only [cC] at hc
    split at hc
    · simp only [Ev.evC] at ev
      cases ev
      exact sts_nil ⟨rfl, ι, .refl _, .refl _, R⟩
    · cases hc
theorem g_yes (ga : GE S tab fuel T0 k a) : GO S tab fuel T0 k (.yes a) where
  so := fun L X x hc ok σ H ι v h h' d rv R ev => by
    simp only [cO'] at hc
    split at hc
    · cases hc
    · simp only [Ev.evO] at ev
      split at ev
      · rename_i i h1 e1
        cases ev
        exact so_some ((ga.se L X _ hc ok σ H ι v h h' _ rv R e1).imp fun y H1 ⟨ι1, p1, k1, R1, r1⟩ => ⟨i, r1.intv, rfl, ι1, p1, k1, R1⟩)
      · cases ev
  sc := fun L X xs hc ok σ H ι v h h' b rv R ev => by
    simp only [cC] at hc
    split at hc
    · simp only [Ev.evC] at ev
      split at ev
      · rename_i x1 h1 e1
        obtain ⟨b', e2, e3⟩ := Option.map_eq_some_iff.mp ev
        cases e3
        exact sts_one (ga.sb L X _ hc ok σ H ι v h h' x1 b rv R e1 e2)
      · cases ev
    · cases hc
theorem LQ.cons {K : PySem.W.Frag} {cls : Nat → Option Addr} {H H1 : Hp} {ι ι1 : List Addr} {x : Ev.D} {xs : List Ev.D} {h : Ev.Heap} {y : V} {ys : List V} {H2 : Hp} (p : Pre ι ι1) (kp : Kp H H1) (r : RV K H1 ι1 x y) (q : LQ K cls H1 ι1 xs h ys H2) : LQ K cls H ι (x :: xs) h (y :: ys) H2 := by
  obtain ⟨ι2, p2, k2, R2, r2⟩ := q
  exact ⟨ι2, p.trans p2, kp.trans k2, R2, .cons (r.mono k2 p2) r2⟩
theorem SPP.imp {ks : List (Option Expr)} {vs : List Expr} {σ : L2.St} {H : Hp} {Q Q' : List V → Hp → Prop} (h : SPP X ks vs σ H Q) (q : ∀ v H', Q v H' → Q' v H') : SPP X ks vs σ H Q' :=
  fun pos pins s tb I => thn (h pos pins s tb I) fun ws _ ⟨v, H1, I1, r, z⟩ => ⟨v, H1, I1, r, q v H1 z⟩
theorem SKW.imp {ks : List Keyword} {σ : L2.St} {H : Hp} {Q Q' : List V → Hp → Prop} (h : SKW X ks σ H Q) (q : ∀ v H', Q v H' → Q' v H') : SKW X ks σ H Q' :=
  fun pos pins s tb I => thn (h pos pins s tb I) fun ws _ ⟨v, H1, t, I1, r, l, z⟩ => ⟨v, H1, t, I1, r, l, q v H1 z⟩
theorem g_nil : GEs S tab fuel T0 k .nil where
  hd := fun a b e => by cases e
  sa := fun L X xs hp hc ok σ H ι v h h' ds rv R ev => by
    simp only [cEs] at hc
    split at hc
    · simp only [Ev.evEs] at ev
      cases ev
      exact sa_nil ⟨ι, .refl _, .refl _, R, .nil⟩
    · cases hc
  sak := fun L X xs ks hp hc ok σ H ι v h h' ds rv R ev => by
    simp only [cAK] at hc
    split at hc
    · simp only [Ev.evEs] at ev
      cases ev
      exact sak_nil (skw_nil ⟨ι, .refl _, .refl _, R, .nil⟩)
    · cases hc
  sk := fun L X ks hc ok σ H ι v h h' ds rv R ev => by
    simp only [cAK] at hc
    split at hc
    · simp only [Ev.evEs] at ev
      cases ev
      exact skw_nil ⟨ι, .refl _, .refl _, R, .nil⟩
    · cases hc
  sp := fun L X ks vs hc ok σ H ι v h h' ds rv R ev => by
    simp only [cPs] at hc
    split at hc
    · simp only [Ev.evEs] at ev
      cases ev
      exact spp_nil ⟨ι, .refl _, .refl _, R, .nil⟩
    · cases hc
  sv := fun L X x ks vs hc => absurd hc (by simp only [cPv]; exact Bool.false_ne_true)
theorem g_cons {es : Ev.Es} (ga : GE S tab fuel T0 k a) (ge : GEs S tab fuel T0 k es) : GEs S tab fuel T0 k (.cons a es) := by
  have inv : ∀ {v : Ev.Env} {h h' : Ev.Heap} {ds : List Ev.D}, Ev.evEs (cxE tab fuel k) (.cons a es) v h = some (ds, h') → ∃ x h1 xs, Ev.evE (cxE tab fuel k) a v h = some (x, h1) ∧ Ev.evEs (cxE tab fuel k) es v h1 = some (xs, h') ∧ ds = x :: xs := fun {v h h' ds} ev => by
    simp only [Ev.evEs] at ev
    split at ev
    · rename_i x h1 e1
      split at ev
      · rename_i xs h2 e2
        cases ev
        exact ⟨x, h1, xs, e1, e2, rfl⟩
      · cases ev
    · cases ev
  have key : ∀ (L : Lx) (X : Cx) (ks : List Keyword), cAK L (.cons a es) [] ks = true → XOk S tab fuel T0 k L X → ∀ (σ : L2.St) (H : Hp) (ι : List Addr) (v : Ev.Env) (h h' : Ev.Heap) (ds : List Ev.D),
      REnv X.K H ι v σ → Rep X.K S.cls H ι h → Ev.evEs (cxE tab fuel k) (.cons a es) v h = some (ds, h') → SKW X ks σ H (LQ X.K S.cls H ι ds h') := fun L X ks hc ok σ H ι v h h' ds rv R ev => by
    obtain ⟨x, h1, xs, e1, e2, rfl⟩ := inv ev
    simp only [cAK] at hc
    split at hc
    · rename_i z; cases z
    · rw [Bool.and_eq_true] at hc
      exact skw_cons ((ga.se L X _ hc.1 ok σ H ι v h h1 x rv R e1).imp fun y H1 ⟨ι1, p1, k1, R1, r1⟩ => (ge.sk L X _ hc.2 ok σ H1 ι1 v h1 h' xs (REnv.mono k1 p1 rv) R1 e2).imp fun ys H2 q => q.cons p1 k1 r1)
    · cases hc
  refine ⟨fun a' b' e => by cases e; exact ga, fun L X xs hp hc ok σ H ι v h h' ds rv R ev => ?_, fun L X xs ks hp hc ok σ H ι v h h' ds rv R ev => ?_, key, fun L X ks vs hc ok σ H ι v h h' ds rv R ev => ?_, fun L X y ks vs hc ok σ H ι v h h' ds rv R ev => ?_⟩
  · obtain ⟨x, h1, xs', e1, e2, rfl⟩ := inv ev
    simp only [cEs] at hc
    split at hc
    · rw [Bool.and_eq_true] at hc
      rw [List.all_cons, Bool.and_eq_true] at hp
      exact sa_cons hp.1 ((ga.se L X _ hc.1 ok σ H ι v h h1 x rv R e1).imp fun y H1 ⟨ι1, p1, k1, R1, r1⟩ => (ge.sa L X _ hp.2 hc.2 ok σ H1 ι1 v h1 h' xs' (REnv.mono k1 p1 rv) R1 e2).imp fun ys H2 q => q.cons p1 k1 r1)
    · cases hc
  · cases xs with
    | nil => exact sak_nil (key L X ks hc ok σ H ι v h h' ds rv R ev)
    | cons e0 r0 =>
      obtain ⟨x, h1, xs', e1, e2, rfl⟩ := inv ev
      simp only [cAK] at hc
      rw [Bool.and_eq_true] at hc
      rw [List.all_cons, Bool.and_eq_true] at hp
      exact sak_cons hp.1 ((ga.se L X _ hc.1 ok σ H ι v h h1 x rv R e1).imp fun y H1 ⟨ι1, p1, k1, R1, r1⟩ => (ge.sak L X _ ks hp.2 hc.2 ok σ H1 ι1 v h1 h' xs' (REnv.mono k1 p1 rv) R1 e2).imp fun ys H2 q => q.cons p1 k1 r1)
  · obtain ⟨x, h1, xs', e1, e2, rfl⟩ := inv ev
    simp only [cPs] at hc
    split at hc
    · rw [Bool.and_eq_true] at hc
      exact spp_cons ((ga.se L X _ hc.1 ok σ H ι v h h1 x rv R e1).imp fun y H1 ⟨ι1, p1, k1, R1, r1⟩ => (ge.sv L X _ _ _ hc.2 ok σ H1 ι1 v h1 h' xs' (REnv.mono k1 p1 rv) R1 e2).imp fun w H2 q => q.imp fun ys H3 q => q.cons p1 k1 r1)
    · cases hc
  · obtain ⟨x, h1, xs', e1, e2, rfl⟩ := inv ev
    simp only [cPv] at hc
    rw [Bool.and_eq_true] at hc
    exact (ga.se L X _ hc.1 ok σ H ι v h h1 x rv R e1).imp fun y H1 ⟨ι1, p1, k1, R1, r1⟩ => (ge.sp L X _ _ hc.2 ok σ H1 ι1 v h1 h' xs' (REnv.mono k1 p1 rv) R1 e2).imp fun ys H2 q => q.cons p1 k1 r1
end
end EvS
set_option Elab.async false
set_option linter.all false
set_option maxRecDepth 100000
set_option maxHeartbeats 1000000
/-! EvV: dict displays, replace, calls, methods. -/
namespace EvS
open PySem PySem.Spec PyProof.Rows L2
section
variable {S : Stc} {tab : Ev.Tab} {fuel T0 k : Nat} {a b c : Ev.E} {L : Lx} {X : Cx} {K : PySem.W.Frag} {H : Hp} {ι : List Addr}

theorem put_new (h : Ev.Heap) (c d : Ev.Cell) : (h.new c).put h.size d = h.new d := by
  simp [Ev.Heap.new, Ev.Heap.put, Ev.Heap.size]
theorem pairs_of : ∀ {xs : List Ev.D} {ps : List (Ev.Ky × Ev.D)} {vs : List V}, Ev.pairsD xs = some ps → RVs K H ι xs vs → ∃ kvs : List (Ev.Ky × V), vs = rowKV kvs ∧ RKs K H ι ps (kvs.map fun q => (kK q.1, q.2))
  | [], ps, vs, e, r => by
    simp only [Ev.pairsD] at e
    cases e
    cases r
    exact ⟨[], rfl, .nil⟩
  | [_], _, _, e, _ => by simp only [Ev.pairsD] at e; cases e
  | x :: y :: xs, ps, vs, e, r => by
    simp only [Ev.pairsD] at e
    split at e
    · rename_i q ps' e1 e2
      cases e
      cases r with
      | cons r1 r =>
        cases r with
        | cons r2 r =>
          obtain ⟨kvs, ev, q2⟩ := pairs_of e2 r
          have ek := key_of' r1 e1
          subst ek ev
          exact ⟨(q, _) :: kvs, rfl, .cons ⟨rfl, r2⟩ q2⟩
    · cases e
theorem g_dct {es : Ev.Es} (ge : GEs S tab fuel T0 k es) : GE S tab fuel T0 k (.dct es) := by
  refine .plain (fun L X x hc ok σ H ι v h h' d rv R ev => ?_) (fun L x hc => ?_) (fun _ _ => by simp only [cAnd]) (fun _ _ => by simp only [cOr])
  · simp only [cE] at hc
    split at hc
    · rename_i ks vs pos
      simp only [Bool.and_eq_true, beq_iff_eq, decide_eq_true_eq] at hc
      obtain ⟨⟨⟨c1, c2⟩, c3⟩, c4⟩ := hc
      simp only [Ev.evE] at ev
      split at ev
      · rename_i xs h1 e1
        split at ev
        · rename_i ps e2 e3
          split at ev
          · rename_i hl
            cases ev
            by_cases h0 : ks = []
            · subst h0
              have hv : vs = [] := by simpa using c2.symm
              subst hv
              cases es with
              | cons e es => simp only [cPs] at c4; cases c4
              | nil =>
                simp only [Ev.evEs] at e1
                cases e1
                simp only [Ev.pairsD] at e2
                cases e2
                refine se pe_dnewK fun p hp => ?_
                rw [put_new]
                exact .made R hp ⟨[], upd_same, .nil, List.nodup_nil⟩
            · refine se_dct c1 c2 h0 c3 fun p hp => ?_
              have R1 : Rep X.K S.cls (upd H p (.dK [])) (ι ++ [p]) (h.new (.dct [])) := R.new hp ⟨[], upd_same, .nil, List.nodup_nil⟩
              refine (ge.sp L X ks vs c4 ok σ _ (ι ++ [p]) v _ h1 xs (REnv.mono (.fresh hp) (.app _ _) rv) R1 e1).imp fun ys H2 ⟨ι2, p2, k2, R2, r2⟩ => ?_
              have hix : ι2[h.size]? = some p := p2 _ _ (by rw [← R.len, List.getElem?_append_right (Nat.le_refl _)]; simp)
              obtain ⟨ws, hw, q, un⟩ := R2.at_ _ _ _ hix e3
              cases q
              obtain ⟨kvs, ey, q2⟩ := pairs_of e2 r2
              have hlen := Paired.length q2
              rw [List.length_map] at hlen
              refine ⟨hw, kvs, ey, by omega, ?_⟩
              have kp : Kp H2 (upd H2 p (.dK (mergeK [] (kvs.map fun q => (kK q.1, q.2))))) := .write hw True.intro
              exact ⟨ι2, (Pre.app _ _).trans p2, (Kp.fresh hp).trans (k2.trans kp), R2.put hix hw True.intro ⟨_, upd_same, RKs.mono kp (.refl _) (RKs.puts q2 .nil List.nodup_nil), Uq.puts List.nodup_nil⟩, .ref hix⟩
          · cases ev
        · cases ev
      · cases ev
    · cases hc
  · simp only [cE] at hc
    split at hc
    · rfl
    · cases hc

/-! ### replace -/
theorem g_repl {n : Nat} {t : Ev.Txt} (ga : GE S tab fuel T0 k a) : GE S tab fuel T0 k (.repl a n t) := by
  refine .plain (fun L X x hc ok σ H ι v h h' d rv R ev => ?_) (fun L x hc => ?_) (fun _ _ => by simp only [cAnd]) (fun _ _ => by simp only [cOr])
  · simp only [cE] at hc
    split at hc
    · rename_i ob x apos ar z i1 p1 pos
      simp only [Bool.and_eq_true, beq_iff_eq, Bool.not_eq_true'] at hc
      obtain ⟨⟨⟨⟨⟨⟨c1, c2⟩, c3⟩, c4⟩, c5⟩, c6⟩, c7⟩ := hc
      subst c1
      have hplain : plainE ar = true := by
        revert c7
        cases ar <;> intro c7 <;> first | rfl | cases c7
      have key : ∀ (pins : List (Addr × Obj)) (H1 : Hp) (s : Shared) (Q : Value → Shared → Prop), TB X s → Inv X pins σ H1 s → (∀ (u : Nat) (s' : Shared), 0 < u → u < s'.toks → TB X s' → Inv X pins σ H1 s' → Q (.str ⟨#[n]⟩ u) s') →
          wpAny (model X.prog X.w) X.A (eval ar X.env) Q X.xe s := fun pins H1 s Q tb I hQ => by
        have hpos : 0 < s.toks := Nat.lt_of_lt_of_le ok.gl.t0 (Nat.le_trans ok.g.t0 tb)
        split at c7
        · have c7 := beq_iff_eq.mp c7
          subst c7
          exact Calls.Constant_str (hQ _ _ hpos (Nat.lt_succ_self _) (Nat.le_succ_of_le tb) (I.tok _))
        · rename_i y yp
          simp only [Bool.and_eq_true, beq_iff_eq] at c7
          obtain ⟨⟨d1, d2⟩, d3⟩ := c7
          obtain ⟨u, m, u0, u1⟩ := ok.gl.tx _ _ d3
          refine ld_glob I ?_ m (hQ u s u0 (Nat.lt_of_lt_of_le u1 (Nat.le_trans ok.g.t0 tb)) tb I) (okName_dbg d1).1
          show X.env.scope.names.lookup y = _
          rw [ok.sc]
          exact d2
        · cases c7
      simp only [Ev.evE] at ev
      split at ev
      · rename_i s0 h1 e1
        split at ev
        · rename_i hl
          cases ev
          intro pins s tb I
          refine meth_any (es := [ar, .Constant (.str z) i1 p1]) (ks := []) (noSup_base _ _ _ c2) (by simp only [List.all_cons, hplain]; rfl) (by rfl) (by simp) c3 (thk tb (ga.se L X _ c6 ok σ H ι v h h' _ rv R e1 pins s tb I) fun ov s1 t1 ⟨y, H1, I1, ry, ι1, q1, k1, R1, r1⟩ => ?_)
          obtain ⟨rfl, hs⟩ := r1.strv
          obtain ⟨tk, rfl⟩ := ry
          refine ⟨(.builtin "str.replace", [.str (sT s0) tk]), fun pl Q hQ => getMethod_builtin (typeIs_str _ _ _) F.plainAttrs_str F.slot_str_replace F.type_str_replace (fun _ e => nomatch e) hQ, ?_⟩
          refine call_any (P := fun _ => True) (by simp only [List.all_cons, hplain]; rfl) (by rfl) (keeps_b _ _) ?_
          rw [star_cons _ X.env hplain]
          refine Calls.spliced_cons (key pins H1 s1 _ t1 I1 fun u s2 u0 u1 t2 I2 => ?_)
          rw [star_cons _ X.env (by rfl : plainE (.Constant (.str z) i1 p1) = true)]
          refine Calls.spliced_cons (Calls.Constant_str (k := i1) (pos := p1) (Calls.spliced_nil (wpAny_evalAll_nil ⟨trivial, ?_⟩)))
          have hz : z = sT t := sT_eq c4
          refine SC.replace (Nat.ne_of_gt u0) (Nat.ne_of_gt (Nat.lt_trans u0 u1)) (Nat.ne_of_lt u1) (beq_eq_false_iff_ne.mpr fun e => ?_) ?_ fun t' kk => ?_
          · rw [e] at c5; simp at c5
          · rw [hz, sT_len, sT_len]
            exact hl
          · refine ⟨.str (sT (Ev.replC n t s0)), H1, (I2.tok _).tok _, ⟨t', by rw [hz, ← repl_ok, sT_one]⟩, ι1, q1, k1, R1, .str _ (Nat.le_trans (repl_len n t s0) hl)⟩
        · cases ev
      · cases ev
    · cases hc
  · simp only [cE] at hc
    split at hc
    · rfl
    · cases hc

/-! ### calls -/
theorem kwsplit_ok {ks : List Ev.Nm} {xs : List Ev.D} {us ws : List Value} (r : Paired (RU K H ι) xs (us ++ ws)) (l : ws.length = ks.length) : Paired (RU K H ι) (Ev.splitK ks xs).1 us ∧ RKw K H ι (Ev.splitK ks xs).2 ((ks.map nS).zip ws) := by
  have hl := Paired.length r
  rw [List.length_append] at hl
  have e : xs.length - ks.length = us.length := by omega
  unfold Ev.splitK
  rw [e]
  refine ⟨?_, kw_zip ?_⟩
  · have := paired_take us.length r
    rwa [List.take_left] at this
  · have := paired_drop us.length r
    rwa [List.drop_left] at this
theorem kwNames_len : ∀ {ks : List Keyword}, ks.all kwOk = true → (kwNames ks).length = ks.length
  | [], _ => rfl
  | ⟨none, _, _⟩ :: _, h => by rw [List.all_cons, Bool.and_eq_true] at h; cases h.1
  | ⟨some n, _, _⟩ :: ks, h => by
    rw [List.all_cons, Bool.and_eq_true] at h
    show (kwNames ks).length + 1 = ks.length + 1
    rw [kwNames_len h.2]
theorem fn_keeps {f : Ev.Fn} {fv : Value} (e : fnV f = some fv) (M : Model) (h : Heap) (t : True) : ∃ k, (k = Keeper.frame ∨ k = Keeper.machine ∨ k = Keeper.boundFrame) ∧ PySem.W.Looks M h (keeperOf fv) k := by
  cases f <;> first | (cases e; first | exact keeps_b _ M h t | exact keeps_t _ M h t) | cases e
theorem fn_not_df {f : Ev.Fn} {fv : Value} (e : fnV f = some fv) : ∀ X ks xs h, Ev.invoke X f ks xs h = if ks.isEmpty then Ev.bltin X.shows f xs h else none := fun X ks xs h => by
  cases f <;> first | rfl | cases e
theorem fn_some {f : Ev.Fn} (h1 : ∀ i, f ≠ .df i) (h2 : ∀ i, f ≠ .cl i) {X : Ev.Cx} {ks : List Ev.Nm} {xs : List Ev.D} {h h' : Ev.Heap} {d : Ev.D} (e : Ev.invoke X f ks xs h = some (d, h')) (hi : ∀ t, f ≠ .isinst t) (hs : f ≠ .lenset) : ∃ fv, fnV f = some fv := by
  cases f <;> first | exact ⟨_, rfl⟩ | exact absurd rfl (h1 _) | exact absurd rfl (h2 _) | exact absurd rfl (hi _) | exact absurd rfl hs
theorem cE_call {f : Ev.Fn} {es : Ev.Es} {kn : List Ev.Nm} (h1 : ∀ t, f ≠ .isinst t) (h2 : f ≠ .lenset) (L : Lx) (e : Expr) : cE L (.call f es kn) e = (match e with
    | .Call (.Name x _) args kws _ => L.glob x (.fn f) && args.all plainE && kws.all kwOk && (kwNames kws == kn.map nS) && cAK L es args kws
    | _ => false) := by
  cases f <;> first | exact absurd rfl (h1 _) | exact absurd rfl h2 | (simp only [cE] <;> rfl)
theorem g_call0 {f : Ev.Fn} {es : Ev.Es} {kn : List Ev.Nm} (nf1 : ∀ t, f ≠ .isinst t) (nf2 : f ≠ .lenset) (ge : GEs S tab fuel T0 k es) : GE S tab fuel T0 k (.call f es kn) := by
  refine .plain (fun L X x hc ok σ H ι v h h' d rv R ev => ?_) (fun L x hc => ?_) (fun _ _ => by simp only [cAnd]) (fun _ _ => by simp only [cOr])
  · rw [cE_call nf1 nf2] at hc
    split at hc
    · rename_i x p args kws pos
      simp only [Bool.and_eq_true, beq_iff_eq] at hc
      obtain ⟨⟨⟨⟨c1, c2⟩, c3⟩, c4⟩, c5⟩ := hc
      obtain ⟨g1, g2, g3⟩ := ok.glob c1
      simp only [Ev.evE] at ev
      split at ev
      · rename_i xs h1 e1
        have hsak := ge.sak L X args kws c2 c5 ok σ H ι v h h1 xs rv R e1
        have hkl : kws.length = kn.length := by
          have := kwNames_len c3
          rw [c4, List.length_map] at this
          exact this.symm
        have common : ∀ {f : Ev.Fn} {fv : Value}, fnV f = some fv → L.gl.lookup x = some (.fn f) → Ev.invoke (cxE tab fuel k) f kn xs h1 = some (d, h') → SE X (.Call (.Name x p) args kws pos) σ H (PQ X.K S.cls H ι d h') := fun {f fv} hf g2 ew => by
          rw [fn_not_df hf] at ew
          split at ew
          · rename_i hk0
            have hk0 : kn = [] := by simpa using hk0
            subst hk0
            obtain ⟨m, hb⟩ := ok.gl.bl _ _ _ g2 hf
            refine se_call (P := fun _ => True) c2 c3 (fun pins s Q I hq => ld_blt I g1 m hb hq (okName_dbg g3).2.2 (okName_dbg g3).1) (fn_keeps hf _) (hsak.imp fun vs H1 ⟨ι1, q1, k1, R1, r1⟩ pins s us ws tb I rv l1 l2 => ⟨trivial, ?_⟩)
            have hw : ws = [] := by
              have := l2.trans hkl
              simpa using this
            subst hw
            rw [List.append_nil] at rv
            rw [List.zip_nil_right]
            exact thn (bltin_ok ok.g.calm ok.hu ok.g.gd hf ew R1 r1 pins s us tb I rv) fun u s' ⟨y, H2, I2, r2, q⟩ => ⟨y, H2, I2, r2, q.after q1 k1⟩
          · cases ew
        cases f with
        | df i =>
          obtain ⟨fa, fd, ps, D, m, dk⟩ := ok.gl.df _ _ g2
          have ev : Ev.callDef (cxE tab fuel k) i [] kn xs h1 = some (d, h') := ev
          unfold Ev.callDef at ev
          split at ev
          · rename_i D' hD
            split at ev
            · rename_i ds eb
              have hD : tab.defs[i]? = some D' := hD
              have := dk.df
              rw [hD] at this; cases this
              refine se_call (P := X.K.In) c2 c3 (fun pins s Q I hq => ld_glob I g1 m hq (okName_dbg g3).1) (PySem.W.keeps_K dk.kp) (hsak.imp fun vs H1 ⟨ι1, q1, k1, R1, r1⟩ pins s us ws tb I rv l1 l2 => ⟨I.kIn, ?_⟩)
              obtain ⟨rp, rk⟩ := kwsplit_ok (ks := kn) (ru_of r1 rv) (l2.trans hkl)
              rw [show kws.filterMap (·.arg) = kn.map nS from c4]
              exact thn (def_run ok.g tb I dk R1 rp rk eb ev) fun u s' ⟨y, H2, I2, r2, q⟩ => ⟨y, H2, I2, r2, q.after q1 k1⟩
            · cases ev
          · cases ev
        | cl i =>
          obtain ⟨C, fa, fd, ps, D, cd, j, m, hC, mk, hcd, hin, dk⟩ := ok.gl.cl _ _ g2
          have ev : Ev.make (cxE tab fuel k) i kn xs h1 = some (d, h') := ev
          unfold Ev.make at ev
          have hcd' : (cxE tab fuel k).tab.clss[i]? = some cd := hcd
          rw [hcd'] at ev
          dsimp only at ev
          rw [hin] at ev
          dsimp only at ev
          split at ev
          · rename_i h2 ecd
            cases ev
            unfold Ev.callDef at ecd
            split at ecd
            · rename_i D' hD
              split at ecd
              · rename_i ds eb
                have hD : tab.defs[j]? = some D' := hD
                have := dk.df
                rw [hD] at this; cases this
                refine se_call (P := X.K.In) c2 c3 (fun pins s Q I hq => ld_glob I g1 m hq (okName_dbg g3).1) (PySem.W.keeps_K mk.kp) (hsak.imp fun vs H1 ⟨ι1, q1, k1, R1, r1⟩ pins s us ws tb I rv l1 l2 => ⟨I.kIn, ?_⟩)
                obtain ⟨rp, rk⟩ := kwsplit_ok (ks := kn) (ru_of r1 rv) (l2.trans hkl)
                rw [show kws.filterMap (·.arg) = kn.map nS from c4]
                exact thn (make_run ok.g tb I dk mk hC R1 rp rk eb ecd) fun u s' ⟨y, H2, I2, r2, q⟩ => ⟨y, H2, I2, r2, q.after q1 k1⟩
              · cases ecd
            · cases ecd
          · cases ev
        | isinst t => exact absurd rfl (nf1 _)
        | lenset => exact absurd rfl nf2
        | len => exact common rfl g2 ev
        | repr => exact common rfl g2 ev
        | tuple => exact common rfl g2 ev
        | int => exact common rfl g2 ev
        | list => exact common rfl g2 ev
        | min => exact common rfl g2 ev
        | max => exact common rfl g2 ev
        | abs => exact common rfl g2 ev
        | str => exact common rfl g2 ev
        | sum => exact common rfl g2 ev
        | all => exact common rfl g2 ev
        | any => exact common rfl g2 ev
        | ord => exact common rfl g2 ev
      · cases ev
    · cases hc
  · rw [cE_call nf1 nf2] at hc
    split at hc
    · rfl
    · cases hc
end
end EvS
set_option Elab.async false
set_option linter.all false
set_option maxRecDepth 100000
set_option maxHeartbeats 1000000
/-! EvX: methods; what is walked. -/
namespace EvS
open PySem PySem.Spec PyProof.Rows L2
section
variable {S : Stc} {tab : Ev.Tab} {fuel T0 k : Nat} {a b c : Ev.E} {L : Lx} {X : Cx} {K : PySem.W.Frag} {H : Hp} {ι : List Addr}

theorem list_slot {m : Ev.Nm} {id : String} (e : listId m = some id) : Slot "list" (nS m) id ∧ typeOf (.builtin id) = pure (.type "method_descriptor") := by
  cases m <;> (try cases e)
  · rw [show nS .append = ("append" : Str) by decide +kernel]; exact ⟨F.slot_list_append, F.type_list_append⟩
  · rw [show nS .clear = ("clear" : Str) by decide +kernel]; exact ⟨F.slot_list_clear, F.type_list_clear⟩
  · rw [show nS .extend = ("extend" : Str) by decide +kernel]; exact ⟨F.slot_list_extend, F.type_list_extend⟩
  · rw [show nS .index = ("index" : Str) by decide +kernel]; exact ⟨F.slot_list_index, F.type_list_index⟩
  · rw [show nS .insert = ("insert" : Str) by decide +kernel]; exact ⟨F.slot_list_insert, F.type_list_insert⟩
  · rw [show nS .pop = ("pop" : Str) by decide +kernel]; exact ⟨F.slot_list_pop, F.type_list_pop⟩
theorem str_slot {m : Ev.Nm} {id : String} (e : strId m = some id) : Slot "str" (nS m) id ∧ typeOf (.builtin id) = pure (.type "method_descriptor") := by
  cases m <;> (try cases e)
  · rw [show nS .endswith = ("endswith" : Str) by decide +kernel]; exact ⟨F.slot_str_endswith, F.type_str_endswith⟩
  · rw [show nS .find = ("find" : Str) by decide +kernel]; exact ⟨F.slot_str_find, F.type_str_find⟩
  · rw [show nS .index = ("index" : Str) by decide +kernel]; exact ⟨F.slot_str_index, F.type_str_index⟩
  · rw [show nS .join = ("join" : Str) by decide +kernel]; exact ⟨F.slot_str_join, F.type_str_join⟩
  · rw [show nS .rfind = ("rfind" : Str) by decide +kernel]; exact ⟨F.slot_str_rfind, F.type_str_rfind⟩
  · rw [show nS .rstrip = ("rstrip" : Str) by decide +kernel]; exact ⟨F.slot_str_rstrip, F.type_str_rstrip⟩
  · rw [show nS .split = ("split" : Str) by decide +kernel]; exact ⟨F.slot_str_split, F.type_str_split⟩
  · rw [show nS .startswith = ("startswith" : Str) by decide +kernel]; exact ⟨F.slot_str_startswith, F.type_str_startswith⟩
  · rw [show nS .strip = ("strip" : Str) by decide +kernel]; exact ⟨F.slot_str_strip, F.type_str_strip⟩
theorem dct_slot {m : Ev.Nm} {id : String} (e : dctId m = some id) : Slot "dict" (nS m) id ∧ typeOf (.builtin id) = pure (.type "method_descriptor") := by
  cases m <;> (try cases e)
  · rw [show nS .get = ("get" : Str) by decide +kernel]; exact ⟨F.slot_dict_get, F.type_dict_get⟩
  · rw [show nS .update = ("update" : Str) by decide +kernel]; exact ⟨F.slot_dict_update, F.type_dict_update⟩
theorem list_has {m : Ev.Nm} {a : Nat} {xs ys : List Ev.D} {h : Ev.Heap} {r : Ev.D × Ev.Heap} (e : Ev.listM m a xs ys h = some r) : ∃ id, listId m = some id := by
  unfold Ev.listM at e
  split at e <;> first | exact ⟨_, rfl⟩ | cases e
theorem str_has {m : Ev.Nm} {s : Ev.Txt} {ys : List Ev.D} {h : Ev.Heap} {r : Ev.D × Ev.Heap} (e : Ev.strM m s ys h = some r) : ∃ id, strId m = some id := by
  unfold Ev.strM at e
  split at e <;> first | exact ⟨_, rfl⟩ | cases e
theorem dct_has {m : Ev.Nm} {a : Nat} {xs : List (Ev.Ky × Ev.D)} {ys : List Ev.D} {h : Ev.Heap} {r : Ev.D × Ev.Heap} (e : Ev.dctM m a xs ys h = some r) : ∃ id, dctId m = some id := by
  unfold Ev.dctM at e
  split at e <;> first | exact ⟨_, rfl⟩ | cases e
theorem MV.imp {id : String} {x : V} {xs : List V} {σ : L2.St} {Q Q' : VK} (h : MV X id x xs σ H Q) (q : ∀ v H', Q v H' → Q' v H') : MV X id x xs σ H Q' :=
  fun pins s v us I r rs => thn (h pins s v us I r rs) fun _ _ ⟨z, H1, I1, r1, w⟩ => ⟨z, H1, I1, r1, q z H1 w⟩
theorem kind_at {m : Ev.Nm} {a : Nat} {h : Ev.Heap} : (Ev.kindM m (.ref a) h = 2 → ∃ xs, h.get a = some (.lst xs)) ∧ (Ev.kindM m (.ref a) h = 3 → ∃ xs, h.get a = some (.dct xs)) ∧ (∀ c, Ev.kindM m (.ref a) h = c + 4 → ∃ fs, h.get a = some (.obj c fs) ∧ Ev.flook fs m = none) := by
  unfold Ev.kindM
  dsimp only
  split
  · exact ⟨fun _ => ⟨_, by assumption⟩, fun e => absurd e (by decide), fun c e => by omega⟩
  · exact ⟨fun e => absurd e (by decide), fun _ => ⟨_, by assumption⟩, fun c e => by omega⟩
  · rename_i c fs hg
    split
    · rename_i hf
      refine ⟨fun e => absurd e (by omega), fun e => absurd e (by omega), fun d e => ?_⟩
      have : c = d := by omega
      subst this
      exact ⟨fs, hg, hf⟩
    · exact ⟨fun e => absurd e (by decide), fun e => absurd e (by decide), fun d e => by omega⟩
  · exact ⟨fun e => absurd e (by decide), fun e => absurd e (by decide), fun d e => by omega⟩
theorem g_meth {m : Ev.Nm} {es : Ev.Es} {kn : List Ev.Nm} (ga : GE S tab fuel T0 k a) (ge : GEs S tab fuel T0 k es) : GE S tab fuel T0 k (.meth a m es kn) := by
  refine .plain (fun L X x hc ok σ H ι v h h' d rv R ev => ?_) (fun L x hc => ?_) (fun _ _ => by simp only [cAnd]) (fun _ _ => by simp only [cOr])
  · simp only [cE] at hc
    split at hc
    · rename_i ob x apos args kws pos
      simp only [Bool.and_eq_true, beq_iff_eq] at hc
      obtain ⟨⟨⟨⟨⟨⟨⟨⟨c1, c2⟩, c3⟩, c4⟩, c5⟩, c6⟩, c7⟩, c8⟩, c9⟩ := hc
      subst c1
      have hb := noSup_base (nS m) X.env (eval ob X.env) c2
      have hn : args.length + kws.length + 1 < 30 := of_decide_eq_true c6
      have hl : (apos.endLine == pos.line) = true := c7
      have hkl : kws.length = kn.length := by
        have := kwNames_len c4
        rw [c5, List.length_map] at this
        exact this.symm
      simp only [Ev.evE] at ev
      split at ev
      · rename_i x1 h1 e1
        have hse := ga.se L X _ c8 ok σ H ι v h h1 x1 rv R e1
        split at ev
        · rename_i xs h2 e2
          split at ev
          · rename_i hk
            have noKw : kn.isEmpty = true → kws = [] ∧ args.length + 1 < 30 := fun z => by
              have z : kn = [] := by simpa using z
              subst z
              have : kws = [] := by simpa using hkl
              subst this
              exact ⟨rfl, by simpa using hn⟩
            unfold Ev.methV at ev
            split at ev
            · rename_i s0
              split at ev
              · rename_i h0
                obtain ⟨rfl, hn'⟩ := noKw h0
                obtain ⟨id, hid⟩ := str_has ev
                obtain ⟨sl, ty⟩ := str_slot hid
                refine se_bm F.plainAttrs_str sl ty hb c3 hn' hl (hse.imp fun y H1 ⟨ι1, q1, k1, R1, r1⟩ => ?_)
                obtain ⟨rfl, hs⟩ := r1.strv
                refine ⟨rfl, (ge.sak L X args [] c3 c9 ok σ H1 ι1 v h1 h2 xs (REnv.mono k1 q1 rv) R1 e2).imp fun vs H2 ⟨ι2, q2, k2, R2, r2⟩ => ?_⟩
                exact (strM_ok hid hs ev R2 r2).imp fun z H3 q => q.after (q1.trans q2) (k1.trans k2)
              · cases ev
            · rename_i p
              split at ev
              · rename_i c fs hg
                split at ev
                · rename_i cd hf hcd
                  split at ev
                  · rename_i i hi
                    have hcd : tab.clss[c]? = some cd := hcd
                    have hk2 : Ev.kindM m (.ref p) h2 = c + 4 := by
                      unfold Ev.kindM
                      simp only [hg, hf]
                    obtain ⟨fs1, hg1, hf1⟩ := kind_at.2.2 c (hk.trans hk2)
                    unfold Ev.callDef at ev
                    split at ev
                    · rename_i D' hD
                      split at ev
                      · rename_i ds eb
                        refine se_im hb c3 c4 hn hl (hse.imp fun y H1 ⟨ι1, q1, k1, R1, r1⟩ => ?_)
                        obtain ⟨pa, rfl, hpa, hcell⟩ := R1.of_ref r1
                        obtain ⟨C, dx, gs, hC, hH, rf⟩ := hcell _ hg1
                        obtain ⟨g, fd, ps, D, mt, dk⟩ := ok.gl.meth _ _ _ _ _ hC hcd hi
                        have hlk := rf.look m
                        rw [hf1] at hlk
                        have hD : tab.defs[i]? = some D' := hD
                        have := dk.df
                        rw [hD] at this; cases this
                        refine ⟨pa, C, dx, gs, g, rfl, hH, ok.gl.cls _ _ hC, mt, hlk, (ge.sak L X args kws c3 c9 ok σ H1 ι1 v h1 h2 xs (REnv.mono k1 q1 rv) R1 e2).imp fun vs H2 ⟨ι2, q2, k2, R2, r2⟩ pins s us ws tb I rvs l1 l2 => ?_⟩
                        obtain ⟨rp, rk⟩ := kwsplit_ok (ks := kn) (ru_of r2 rvs) (l2.trans hkl)
                        rw [show kws.filterMap (·.arg) = kn.map nS from c5]
                        exact thn (def_run ok.g tb I dk R2 (pos := .ref p :: (Ev.splitK kn xs).1) (.cons ⟨.ref pa, .ref (q2 _ _ hpa), rfl⟩ rp) rk eb ev) fun u s' ⟨y, H3, I3, r3, q⟩ => ⟨y, H3, I3, r3, q.after (q1.trans q2) (k1.trans k2)⟩
                      · cases ev
                    · cases ev
                  · cases ev
                · cases ev
              · rename_i ys hg
                split at ev
                · rename_i h0
                  obtain ⟨rfl, hn'⟩ := noKw h0
                  obtain ⟨id, hid⟩ := list_has ev
                  obtain ⟨sl, ty⟩ := list_slot hid
                  have hk2 : Ev.kindM m (.ref p) h2 = 2 := by
                    unfold Ev.kindM
                    simp only [hg]
                  obtain ⟨xs1, hg1⟩ := kind_at.1 (hk.trans hk2)
                  refine se_bm F.plainAttrs_list sl ty hb c3 hn' hl (hse.imp fun y H1 ⟨ι1, q1, k1, R1, r1⟩ => ?_)
                  obtain ⟨pa, vs1, rfl, hpa, sq, w⟩ := R1.seq r1 (.inl hg1)
                  refine ⟨.inl ⟨rfl, vs1, sq⟩, (ge.sak L X args [] c3 c9 ok σ H1 ι1 v h1 h2 xs (REnv.mono k1 q1 rv) R1 e2).imp fun vs H2 ⟨ι2, q2, k2, R2, r2⟩ => ?_⟩
                  exact (listM_ok hid hg ev R2 (r1.mono k2 q2) r2).imp fun z H3 q => q.after (q1.trans q2) (k1.trans k2)
                · cases ev
              · rename_i ys hg
                split at ev
                · rename_i h0
                  obtain ⟨rfl, hn'⟩ := noKw h0
                  obtain ⟨id, hid⟩ := dct_has ev
                  obtain ⟨sl, ty⟩ := dct_slot hid
                  have hk2 : Ev.kindM m (.ref p) h2 = 3 := by
                    unfold Ev.kindM
                    simp only [hg]
                  obtain ⟨xs1, hg1⟩ := kind_at.2.1 (hk.trans hk2)
                  refine se_bm F.plainAttrs_dict sl ty hb c3 hn' hl (hse.imp fun y H1 ⟨ι1, q1, k1, R1, r1⟩ => ?_)
                  obtain ⟨pa, rfl, hpa, hcell⟩ := R1.of_ref r1
                  obtain ⟨ws, hw, _, _⟩ := hcell _ hg1
                  refine ⟨.inr (.inr (.inl ⟨rfl, .inl ⟨ws, hw⟩⟩)), (ge.sak L X args [] c3 c9 ok σ H1 ι1 v h1 h2 xs (REnv.mono k1 q1 rv) R1 e2).imp fun vs H2 ⟨ι2, q2, k2, R2, r2⟩ => ?_⟩
                  have hu1 : X.A.units + 1 < cLine := by have := ok.hu; omega
                  exact (dctM_ok hu1 hid hg ev R2 (r1.mono k2 q2) r2).imp fun z H3 q => q.after (q1.trans q2) (k1.trans k2)
                · cases ev
              · cases ev
            · cases ev
          · cases ev
        · cases ev
      · cases ev
    · cases hc
  · simp only [cE] at hc
    split at hc
    · rfl
    · cases hc

/-! ### what is walked -/
theorem gi_val (ga : GE S tab fuel T0 k a) : GI S tab fuel T0 k (.val a) where
  si := fun L X tg x hc ok σ H ι v h h' src rv R ev pins s tb I => by
    simp only [cI] at hc
    rw [Bool.and_eq_true] at hc
    simp only [Ev.evI] at ev
    split at ev
    · rename_i x1 h1 e1
      obtain ⟨s0, e2, e3⟩ := Option.map_eq_some_iff.mp ev
      cases e3
      refine thn (ga.se L X x hc.2 ok σ H ι v h h' x1 rv R e1 pins s tb I) fun u s1 ⟨y, H1, I1, ry, ι1, q1, k1, R1, r1⟩ => ?_
      obtain ⟨kz, ek, zo, _, sz⟩ := iter_kind I1 R1 r1 ry e2
      subst ek
      exact pie_one I1 zo ⟨ι1, q1, k1, R1, sz.one⟩
    · cases ev
  fold := fun L tg x env u hc => by
    simp only [cI] at hc
    rw [Bool.and_eq_true] at hc
    exact notSet_fold env u hc.1
theorem bounded_iff {i : Int} (e : Ev.bounded i = true) : -(2 ^ 62) ≤ i ∧ i < 2 ^ 62 := by
  unfold Ev.bounded at e
  rw [Bool.and_eq_true, decide_eq_true_iff, decide_eq_true_iff] at e
  omega
theorem gi_range {es : Ev.Es} (ge : GEs S tab fuel T0 k es) : GI S tab fuel T0 k (.range es) where
  si := fun L X tg x hc ok σ H ι v h h' src rv R ev pins s tb I => by
    simp only [cI] at hc
    split at hc
    · rename_i y p args pos
      simp only [Bool.and_eq_true] at hc
      obtain ⟨⟨⟨c1, c2⟩, c3⟩, c4⟩ := hc
      obtain ⟨g1, g2, g3⟩ := ok.glob c1
      obtain ⟨m, hb⟩ := ok.gl.rng _ g2
      simp only [Ev.evI] at ev
      split at ev
      · rename_i xs h1 e1
        obtain ⟨s0, e2, e3⟩ := Option.map_eq_some_iff.mp ev
        cases e3
        refine wpAny_Call_Name_kw (ld_blt I g1 m hb ?_ (okName_dbg g3).2.2 (okName_dbg g3).1)
        refine call_any (P := fun _ => True) c2 (by rfl) (keeps_t _ _) (thn (ge.sa L X args c2 c3 ok σ H ι v h h' xs rv R e1 pos pins s tb I) fun us s1 ⟨vs, H1, I1, r1, ι1, q1, k1, R1, w⟩ => wpAny_evalAll_nil ⟨trivial, ?_⟩)
        unfold Ev.rangeV at e2
        split at e2
        · rename_i n
          split at e2
          · rename_i hn
            obtain ⟨b1, b2⟩ := bounded_iff hn
            cases e2
            obtain ⟨y1, rfl, w1⟩ := w.one
            have := w1.intv
            subst this
            obtain ⟨u1, rfl, ru⟩ := vals1 r1
            obtain ⟨t, rfl⟩ := ru
            refine call_range_1 (range_it I1 (by decide) (by decide) b1 b2 ⟨ι1, q1, k1, R1, ?_⟩)
            rw [Int.sub_zero]
            exact range_src _ _ _ _ _
          · cases e2
        · rename_i i j
          split at e2
          · rename_i hn
            rw [Bool.and_eq_true] at hn
            obtain ⟨b1, b2⟩ := bounded_iff hn.1
            obtain ⟨b3, b4⟩ := bounded_iff hn.2
            cases e2
            obtain ⟨y1, y2, rfl, w1, w2⟩ := w.two
            have := w1.intv
            subst this
            have := w2.intv
            subst this
            cases r1 with
            | cons ra r1 =>
              cases r1 with
              | cons rb r1 =>
                cases r1
                obtain ⟨t, rfl⟩ := ra
                obtain ⟨t', rfl⟩ := rb
                exact call_range_2 (range_it I1 b1 b2 b3 b4 ⟨ι1, q1, k1, R1, range_src _ _ _ _ _⟩)
          · cases e2
        · cases e2
      · cases ev
    · cases hc
  fold := fun L tg x env u hc => by
    simp only [cI] at hc
    split at hc
    · rfl
    · cases hc
theorem gi_enum (ga : GE S tab fuel T0 k a) : GI S tab fuel T0 k (.enum a) where
  si := fun L X tg x hc ok σ H ι v h h' src rv R ev pins s tb I => by
    simp only [cI] at hc
    rw [Bool.and_eq_true] at hc
    obtain ⟨ht, hc⟩ := hc
    split at hc
    · rename_i y p arg pos
      simp only [Bool.and_eq_true] at hc
      obtain ⟨⟨c1, c2⟩, c3⟩ := hc
      obtain ⟨g1, g2, g3⟩ := ok.glob c1
      obtain ⟨m, hb⟩ := ok.gl.enm _ g2
      simp only [Ev.evI] at ev
      split at ev
      · rename_i x1 h1 e1
        split at ev
        · rename_i ad e2
          cases ev
          obtain ⟨elts, kk, tpos, rfl⟩ : ∃ elts kk tpos, tg = .Tuple elts kk tpos := by
            cases tg <;> first | exact ⟨_, _, _, rfl⟩ | cases ht
          refine wpAny_Call_Name_kw (ld_blt I g1 m hb ?_ (okName_dbg g3).2.2 (okName_dbg g3).1)
          refine call_any (es := [arg]) (P := fun _ => True) (by simp only [List.all_cons, c2]; rfl) (by rfl) (keeps_t _ _) ?_
          rw [star_cons _ X.env c2]
          refine Calls.spliced_cons (thn (ga.se L X arg c3 ok σ H ι v h h' x1 rv R e1 pins s tb I) fun u s1 ⟨y, H1, I1, ry, ι1, q1, k1, R1, r1⟩ => Calls.spliced_nil (wpAny_evalAll_nil ⟨trivial, ?_⟩))
          obtain ⟨kz, ek, zo, hz, sz⟩ := iter_kind I1 R1 r1 ry e2
          have hx : ∃ xs, x1 = .ref ad ∧ (h'.get ad = some (.lst xs) ∨ h'.get ad = some (.fro xs)) := by
            unfold Ev.ofIter at e2
            split at e2
            · cases e2
            · cases e2
            · split at e2
              · rename_i xs hx; cases e2; exact ⟨xs, rfl, .inl hx⟩
              · rename_i xs hx; cases e2; exact ⟨xs, rfl, .inr hx⟩
              · cases e2
            · cases e2
          obtain ⟨xs, rfl, hx⟩ := hx
          obtain ⟨pa, vs, rfl, hpa, sq, w⟩ := R1.seq r1 hx
          obtain rfl : u = Value.ref pa := ry
          obtain ⟨its, rvl, pl, _⟩ := I1.list sq
          cases kz with
          | str x t w => cases ek
          | tup l =>
            have : pa = l := by
              have e : Value.ref pa = Value.ref l := ek
              cases e; rfl
            subst this
            obtain ⟨_, hl⟩ := zo
            exact (list_or_tuple pl.isList hl).elim
          | lst l =>
            have : pa = l := by
              have e : Value.ref pa = Value.ref l := ek
              cases e; rfl
            subst this
            show wpAny _ _ (call (.type "enumerate") [.ref pa]) _ _ _
            refine call_enumerate_list pl.isList fun hp2 he hit hsz hk => wpAny_pyIter_enum he ?_
            refine ⟨s1.heap.objs.size + 1, [s1.heap.objs.size + 1, s1.heap.objs.size], _, _, H1, rfl, I1.kept (t' := s1.toks) hk, turn_enum pa _ s1.heap.objs.size, ⟨⟨.none, he⟩, hit, Nat.succ_ne_self _⟩, fun b hb => ?_, ι1, q1, k1, R1, enum_src (k := .lst pa) sz⟩
            have two : b = s1.heap.objs.size + 1 ∨ b = s1.heap.objs.size := by simpa using hb
            have le : s1.heap.objs.size ≤ b := two.elim (fun z => by rw [z]; exact Nat.le_succ _) fun z => Nat.le_of_eq z.symm
            exact I1.fpOk le (I1.hok.fresh le)
        · cases ev
      · cases ev
    · cases hc
  fold := fun L tg x env u hc => by
    simp only [cI] at hc
    rw [Bool.and_eq_true] at hc
    obtain ⟨_, hc⟩ := hc
    split at hc
    · rfl
    · cases hc
theorem gi_zip (ga : GE S tab fuel T0 k a) (gb : GE S tab fuel T0 k b) : GI S tab fuel T0 k (.zip a b) where
  si := fun L X tg x hc ok σ H ι v h h' src rv R ev pins s tb I => by
    simp only [cI] at hc
    rw [Bool.and_eq_true] at hc
    obtain ⟨ht, hc⟩ := hc
    split at hc
    · rename_i y p arg arg2 pos
      simp only [Bool.and_eq_true] at hc
      obtain ⟨⟨⟨⟨c1, c2⟩, c3⟩, c4⟩, c5⟩ := hc
      obtain ⟨g1, g2, g3⟩ := ok.glob c1
      obtain ⟨m, hb⟩ := ok.gl.zp _ g2
      simp only [Ev.evI] at ev
      split at ev
      · rename_i x1 h1 e1
        split at ev
        · rename_i x2 h2 e2
          split at ev
          · rename_i s1' s2' e3 e4
            cases ev
            obtain ⟨elts, kk, tpos, rfl⟩ : ∃ elts kk tpos, tg = .Tuple elts kk tpos := by
              cases tg <;> first | exact ⟨_, _, _, rfl⟩ | cases ht
            refine wpAny_Call_Name_kw (ld_blt I g1 m hb ?_ (okName_dbg g3).2.2 (okName_dbg g3).1)
            refine call_any (es := [arg, arg2]) (P := fun _ => True) (by simp only [List.all_cons, c2, c3]; rfl) (by rfl) (keeps_t _ _) ?_
            rw [star_cons _ X.env c2]
            refine Calls.spliced_cons (thk tb (ga.se L X arg c4 ok σ H ι v h h1 x1 rv R e1 pins s tb I) fun u s1 t1 ⟨y, H1, I1, ry, ι1, q1, k1, R1, r1⟩ => ?_)
            rw [star_cons _ X.env c3]
            refine Calls.spliced_cons (thn (gb.se L X arg2 c5 ok σ H1 ι1 v h1 h' x2 (REnv.mono k1 q1 rv) R1 e2 pins s1 t1 I1) fun u2 s2 ⟨y2, H2, I2, ry2, ι2, q2, k2, R2, r2⟩ => Calls.spliced_nil (wpAny_evalAll_nil ⟨trivial, ?_⟩))
            obtain ⟨kz, ek, zo, hz, sz⟩ := iter_kind I2 R2 (r1.mono k2 q2) ry e3
            obtain ⟨kz2, ek2, zo2, hz2, sz2⟩ := iter_kind I2 R2 r2 ry2 e4
            subst ek ek2
            exact zg_walk I2 zo zo2 hz hz2 ⟨ι2, q1.trans q2, k1.trans k2, R2, sz.two sz2⟩
          · cases ev
        · cases ev
      · cases ev
    · cases hc
  fold := fun L tg x env u hc => by
    simp only [cI] at hc
    rw [Bool.and_eq_true] at hc
    obtain ⟨_, hc⟩ := hc
    split at hc
    · rfl
    · cases hc
theorem gi_items : GI S tab fuel T0 k (.items a) where
  si := fun L X tg x hc => absurd hc (by simp only [cI]; exact Bool.false_ne_true)
  fold := fun L tg x env u hc => absurd hc (by simp only [cI]; exact Bool.false_ne_true)
end
end EvS
set_option Elab.async false
set_option linter.all false
set_option maxRecDepth 100000
set_option maxHeartbeats 4000000
/-! EvSet: set(x) of a text. -/
namespace EvS
open PySem PySem.Spec PyProof.Rows L2
theorem uniq_snoc (c : Nat) : ∀ l : List Nat, (Ev.uniq (l ++ [c])).length = if l.contains c then (Ev.uniq l).length else (Ev.uniq l).length + 1
  | [] => by simp [Ev.uniq]
  | x :: l => by
    have ih := uniq_snoc c l
    rw [List.cons_append]
    unfold Ev.uniq
    by_cases hx : x = c
    · subst hx
      by_cases hl : l.contains x = true
      · have h1 : (l ++ [x]).contains x = true := by simp
        have h2 : (x :: l).contains x = true := by simp
        rw [h1, hl, h2, if_pos rfl, if_pos rfl, if_pos rfl, ih, hl, if_pos rfl]
      · have h1 : (l ++ [x]).contains x = true := by simp
        have h2 : (x :: l).contains x = true := by simp
        have hl' : l.contains x = false := by simpa using hl
        rw [h1, hl', h2, if_pos rfl, if_pos rfl, ih, hl']
        simp
    · have h1 : (l ++ [c]).contains x = l.contains x := by simp [hx]
      have h2 : (x :: l).contains c = l.contains c := by
        have : ¬ c = x := fun e => hx e.symm
        simp [this]
      rw [h1, h2]
      cases l.contains x with
      | true => rw [if_pos rfl, if_pos rfl, ih]
      | false =>
        rw [if_neg Bool.false_ne_true, if_neg Bool.false_ne_true, List.length_cons, ih, List.length_cons]
        split <;> omega
/-- which signs are met ahead of place i -/
def metS (cs : List Nat) (i : Nat) : Str → Bool := fun k => (cs.take i).any fun c => decide ((⟨#[c]⟩ : Str) = k)
theorem metS_at {cs : List Nat} {i c : Nat} : metS cs i ⟨#[c]⟩ = (cs.take i).contains c := by
  unfold metS
  rw [Bool.eq_iff_iff, List.any_eq_true, List.contains_iff_exists_mem_beq]
  constructor
  · rintro ⟨d, hd, e⟩
    have e := of_decide_eq_true e
    have : d = c := by
      have := congrArg (fun s : Str => s.cps.toList) e
      simpa using this
    exact ⟨d, hd, by simp [this]⟩
  · rintro ⟨d, hd, e⟩
    have e := eq_of_beq e
    subst e
    exact ⟨c, hd, by simp⟩
theorem take_next {cs : List Nat} {i c : Nat} (h : cs[i]? = some c) : cs.take (i + 1) = cs.take i ++ [c] := by
  rw [List.take_add_one, h]; rfl
section
variable {prog : Program} {w : World} {A : Around} {R : Result → Shared → Prop} {I : Addr} {fp wr : List Addr} {G : Array GenState → Array GenState → Prop} {n : Nat} {x : Str} {St : Nat → Shared → Prop}
theorem update_signs (W : WalksS prog w A.in1 I fp wr G n (SignAt x) St) (S : Addr) (hSf : S ∉ fp) (hn : n = x.cps.toList.length) (hb : n + 1 < scanBound) :
    ∀ (k i : Nat) (s : Shared), n - i = k → i ≤ n → St i s → s.heap.SetOf (strKind prog w) S (metS x.cps.toList i) (Ev.uniq (x.cps.toList.take i)).length →
      (∀ s', Moved (S :: wr) G s s' → s'.heap.SetOf (strKind prog w) S (metS x.cps.toList n) (Ev.uniq x.cps.toList).length → R (.ok (.ret .none)) s') →
      codeAny (model prog w) A (.builtin "set.update.loop" ⟨[.ref S, .ref I], []⟩) R s := by
  have hSw : S ∉ wr := fun h => hSf (W.sub _ h)
  have hsub : ∀ b ∈ wr, b ∈ S :: wr := fun b hb => List.mem_cons_of_mem _ hb
  have stay : ∀ {s s' : Shared} {T : Str → Bool} {m : Nat}, Moved wr G s s' → s.heap.SetOf (strKind prog w) S T m → s'.heap.SetOf (strKind prog w) S T m := fun {s s' T m} hm ⟨o, es, ep, t, ho, rest⟩ => ⟨o, es, ep, t, hm.heap S _ hSw ho, rest⟩
  intro k
  induction k with
  | zero =>
    intro i s hk hi hst hS hR
    obtain rfl : i = n := by omega
    refine codeAny_builtin F.entry_set_update_loop ?_
    rw [Around.under_plainId F.plain_set_update_loop _]
    show wpAny _ A.in1 (pyNext (.ref I) >>= _) _ _ s
    refine wpAny_bind (W.done s _ _ hst fun s' hm => ?_)
    have e : x.cps.toList.take i = x.cps.toList := List.take_of_length_le (by omega)
    have hS2 := stay hm hS
    rw [e] at hS2
    exact wpAny_pure (hR s' (hm.mono hsub) hS2)
  | succ k ih =>
    intro i s hk hi hst hS hR
    have hlt : i < n := by omega
    refine codeAny_builtin F.entry_set_update_loop ?_
    rw [Around.under_plainId F.plain_set_update_loop _]
    show wpAny _ A.in1 (pyNext (.ref I) >>= _) _ _ s
    refine wpAny_bind (W.item i s _ _ hlt hst fun v s' hP hst' hm => ?_)
    obtain ⟨c, t, hc, rfl⟩ := hP
    have hc : x.cps.toList[i]? = some c := by simpa using hc
    have hS' := stay hm hS
    show wpAny _ A.in1 (holding [Value.str ⟨#[c]⟩ t] (setAdd S (.str ⟨#[c]⟩ t)) >>= _) _ _ s'
    refine wpAny_bind (wpAny_holding ?_)
    unfold setAdd
    refine wpAny_holding ?_
    refine wpAny_bind ((strKind prog w).pyHash (k := ⟨#[c]⟩) (strKind_is _ _ _ _) ?_)
    have hroom : (Ev.uniq (x.cps.toList.take i)).length + 1 < scanBound := by
      have h1 : ∀ l : List Nat, (Ev.uniq l).length ≤ l.length := fun l => by
        induction l with
        | nil => exact Nat.le_refl _
        | cons a l ih =>
          unfold Ev.uniq
          split
          · exact Nat.le_succ_of_le ih
          · exact Nat.succ_le_succ ih
      have h2 := h1 (x.cps.toList.take i)
      rw [List.length_take] at h2
      omega
    refine wpAny_setAddHashed_of (knd := strKind prog w) (s := { s' with toks := s'.toks + 1 }) (strKind_is _ _ _ _) rfl hS' hroom fun h' hsb hS2 => ?_
    have hS3 : h'.SetOf (strKind prog w) S (metS x.cps.toList (i + 1)) (Ev.uniq (x.cps.toList.take (i + 1))).length := by
      refine SetOf_congr hS2 (fun k' => ?_) ?_
      · unfold metS
        rw [take_next hc, List.any_append]
        congr 1
        simp [eq_comm]
      · rw [take_next hc, uniq_snoc, metS_at]
    refine wpAny_pure ⟨plainId_quiet F.plain_set_update_loop _, ih (i + 1) _ (by omega) hlt (W.frame _ s' _ _ hst' (Nat.le_succ _) fun b hb o e => ?_) hS3 fun s'' hm'' hS'' => ?_⟩
    · rw [hsb.2 b (fun h : b = S => hSf (by rw [← h]; exact hb))]; exact e
    · refine hR s'' (Moved.trans W.gtrans ((hm.mono hsub).then_heap (Nat.le_succ _) fun b o hb e => ?_) hm'') hS''
      rw [hsb.2 b (fun h : b = S => hb (by rw [h]; exact List.mem_cons_self))]; exact e
end
theorem str_walk {prog : Program} {w : World} {A : Around} (hh : A.handled = none) (h : Heap) (x : Str) (u : Tok) : ∃ St, Walks prog w A h.objs.size [h.objs.size] [h.objs.size] x.cps.size (SignAt x) St ∧ St 0 (h.push (ZK.str x u (!(x.cps.all (· < 128)))).obj) := by
  cases hw : (!(x.cps.all (· < 128))) with
  | true => exact ⟨_, Walks.strWide hh _ x u, z_start h (.str x u true)⟩
  | false => exact ⟨_, Walks.strAscii hh _ x u, z_start h (.str x u false)⟩
section
variable {P : Program} {w : World} {A : Around} {E : Value → Shared → Prop} {s : Shared}
theorem set_signs {x : Str} {u : Tok} {Q : Value → Shared → Prop} (hh : A.handled = none) (hb : x.cps.toList.length + 1 < scanBound)
    (h : ∀ (h' : Heap) (tk : Nat), h'.SetOf (strKind P w) s.heap.objs.size (metS x.cps.toList x.cps.toList.length) (Ev.uniq x.cps.toList).length → (∀ b o, s.heap.get? b = some o → h'.get? b = some o) → Q (.ref s.heap.objs.size) { s with heap := h', toks := tk }) :
    wpAny (model P w) A (call (.type "set") [.str x u]) Q E s := by
  obtain ⟨c, tl, hmro⟩ := F.called_set.mro
  have hmade := F.called_set.made
  have hsub := F.called_set.sub
  refine wpAny_call (codeAny_of_tree ?_)
  show wpAny _ _ (callAny (.type "set") _) _ _ _
  refine wpAny_pure ⟨Code.quiet_builtin _ (by decide +kernel), codeAny_builtin F.entry_type_call ?_⟩
  rw [Around.under_plain (weight_type_call_type "set" [.str x u] []) rfl]
  have h1 := F.called_set.notType
  have h2 := F.called_set.canCreate
  have hct := F.typeCall_set_1 (.str x u)
  repeat (any_goals (first | assumption | wp_step))
  refine codeAny_mono (code_set_new_1 (.str x u) (E := E) (Q₁ := fun obj s₁ => obj = .ref s.heap.objs.size ∧ ∃ led, s₁ = { s with heap := s.heap.push { cls := .type "set", dict := none, data := .set #[] 0 (.fresh 0 0 led) } }) fun led => ⟨rfl, led, rfl⟩) fun r s₁ hr => ?_
  cases r with
  | error e => exact hr
  | ok fl =>
    cases fl with
    | ret obj =>
      obtain ⟨rfl, led, rfl⟩ := hr
      have hS : (s.heap.push { cls := .type "set", dict := none, data := .set #[] 0 (.fresh 0 0 led) }).get? s.heap.objs.size = some { cls := .type "set", dict := none, data := .set #[] 0 (.fresh 0 0 led) } := Heap.get?_push_size _ rfl
      have hT : Shared.TypeIs { s with heap := s.heap.push { cls := .type "set", dict := none, data := .set #[] 0 (.fresh 0 0 led) } } (.ref s.heap.objs.size) "set" := ⟨_, hS, rfl⟩
      have hli := F.called_set.init.lookup
      have hbi := F.called_set.init.bind (.ref s.heap.objs.size)
      repeat (any_goals (first | assumption | wp_step))
      refine codeAny_mono (codeAny_call_builtin (R := wants (fun r s₂ => r = .none ∧ ∃ h' tk, s₂ = { s with heap := h', toks := tk } ∧ h'.SetOf (strKind P w) s.heap.objs.size (metS x.cps.toList x.cps.toList.length) (Ev.uniq x.cps.toList).length ∧ (∀ b o, s.heap.get? b = some o → h'.get? b = some o)) E)
        F.called_set.init.plain F.entry_set_init (check_set_init_1 hT ?_)) fun r₂ s₂ hr₂ => ?_
      · have hsls := PySem.F.sub_str_set
        have hslf := PySem.F.sub_str_frozenset
        have hne : (Value.type "str" == Value.type "dict") = false := by decide
        unfold Builtin.«set.__init__» noKeywords Builtin.Frozenset.updateFrom
        generalize hPI : pyIter = PI
        wp_walk
        subst hPI
        refine z_iter (k := .str x u (!(x.cps.all (· < 128)))) (by show _ = !(!_); rw [Bool.not_not]) ?_
        refine wpAny_bind (wpAny_runValue ?_)
        have hh3 : A.in1.in1.in1.handled = none := by simp [hh]
        have hz1 : (s.heap.push { cls := .type "set", dict := none, data := .set #[] 0 (.fresh 0 0 led) }).objs.size = s.heap.objs.size + 1 := Heap.size_push ..
        obtain ⟨St, W, st⟩ := str_walk (prog := P) (w := w) hh3 (s.heap.push { cls := .type "set", dict := none, data := .set #[] 0 (.fresh 0 0 led) }) x u
        have hSf : s.heap.objs.size ∉ [(s.heap.push { cls := .type "set", dict := none, data := .set #[] 0 (.fresh 0 0 led) }).objs.size] := by
          rw [Heap.size_push, List.mem_singleton]
          exact Nat.ne_of_lt (Nat.lt_succ_self _)
        have hlen : x.cps.size = x.cps.toList.length := Array.length_toList.symm
        refine update_signs (x := x) W.toS s.heap.objs.size hSf hlen (by omega) (x.cps.size - 0) 0 _ rfl (Nat.zero_le _) st ?hS0 ?hR
        case hS0 =>
          refine ⟨_, #[], 0, _, Heap.get?_push_of_some _ hS, ⟨rfl, rfl, rfl⟩, rfl, (fun e he => by simp at he), (fun k => by simp [metS]), (by decide), (by rfl), by simp [Ev.uniq]⟩
        case hR =>
          intro s' hm hS'
          obtain ⟨h', g2, d', tk', os'⟩ := s'
          have eg : g2 = s.gens := hm.gens
          have ed : d' = s.drawn := hm.drawn
          have eo : os' = s.os := hm.os
          subst eg; subst ed; subst eo
          show wpAny _ _ _ _ _ _
          refine wpAny_pure ?_
          show wpAny _ _ (ret Value.none) _ _ _
          rw [hlen] at hS'
          refine wpAny_pure ⟨rfl, h', tk', rfl, hS', fun b o e => ?_⟩
          have hb0 : b < s.heap.objs.size := Heap.lt_size e
          have hb1 : b ≠ s.heap.objs.size := Nat.ne_of_lt hb0
          have hb2 : b ≠ (s.heap.push { cls := .type "set", dict := none, data := .set #[] 0 (.fresh 0 0 led) }).objs.size := by
            rw [Heap.size_push]; exact Nat.ne_of_lt (Nat.lt_succ_of_lt hb0)
          exact hm.heap b o (by simp only [List.mem_cons, List.mem_singleton, List.not_mem_nil, or_false, not_or]; exact ⟨hb1, hb2⟩) (Heap.get?_push_of_some _ (Heap.get?_push_of_some _ e))
      · cases r₂ with
        | error e => exact hr₂
        | ok fl₂ =>
          cases fl₂ with
          | ret r =>
            obtain ⟨rfl, h', tk, rfl, hS', hk'⟩ := hr₂
            repeat (any_goals (first | assumption | wp_step))
            exact h _ _ hS' hk'
          | _ => exact hr₂.elim
    | _ => exact hr.elim
end
end EvS
set_option Elab.async false
set_option linter.all false
set_option maxRecDepth 100000
set_option maxHeartbeats 1000000
/-! EvSi: isinstance, len(set(text)). -/
namespace EvS
open PySem PySem.Spec PyProof.Rows L2
section
variable {S : Stc} {tab : Ev.Tab} {fuel T0 k : Nat} {L : Lx} {X : Cx}
/-- a built-in type's name -/
def tyN : Ev.Ty → String
  | .int => "int" | .bool => "bool" | .str => "str" | .tuple => "tuple" | .list => "list" | .cls _ => ""
theorem ty_kit (K : PySem.W.Frag) {t : Ev.Ty} (ht : ∀ c, t ≠ .cls c) : PySem.W.kitOne K (.type "NoneType") (.type (tyN t)) = some false ∧ PySem.W.kitOne K (.type "bool") (.type (tyN t)) = some (t == .bool || t == .int) ∧ PySem.W.kitOne K (.type "int") (.type (tyN t)) = some (t == .int) ∧
    PySem.W.kitOne K (.type "str") (.type (tyN t)) = some (t == .str) ∧ PySem.W.kitOne K (.type "tuple") (.type (tyN t)) = some (t == .tuple) ∧ PySem.W.kitOne K (.type "list") (.type (tyN t)) = some (t == .list) ∧ PySem.W.kitOne K (.type "dict") (.type (tyN t)) = some false := by
  cases t with
  | cls c => exact absurd rfl (ht c)
  | _ => exact ⟨kit_ty (by decide +kernel), kit_ty (by decide +kernel), kit_ty (by decide +kernel), kit_ty (by decide +kernel), kit_ty (by decide +kernel), kit_ty (by decide +kernel), kit_ty (by decide +kernel)⟩
theorem isin_ok {H : Hp} {ι : List Addr} {h : Ev.Heap} {t : Ev.Ty} {x : Ev.D} {vx cv : V} {cu : Value} {b : Bool} (gl : GOk X.K X.mg S tab T0 L.gl L.flds L.tx) (hc : ClsV cv cu) (ht : (∃ c C, t = .cls c ∧ cu = .ref C ∧ S.cls c = some C) ∨ ((∀ c, t ≠ .cls c) ∧ cu = .type (tyN t)))
    (R : Rep X.K S.cls H ι h) (r : RV X.K H ι x vx) (e : Ev.isinst t x h = some b) : ∃ ty, TyX X.K H vx ty ∧ PySem.W.kitOne X.K ty cu = some b := by
  have flatc : ∀ (T : String), T ∈ (["NoneType", "bool", "int", "str", "list", "tuple", "dict"] : List String) → (∃ c C, t = .cls c ∧ cu = .ref C ∧ S.cls c = some C) → PySem.W.kitOne X.K (.type T) cu = some false := fun T hT ⟨c, C, h1, h2, h3⟩ => by
    subst h2
    exact (gl.kit c C h3).1.of T hT
  unfold Ev.isinst at e
  split at e
  · cases e; cases r
    rcases ht with q | ⟨q, rfl⟩
    · exact ⟨_, .base .non, flatc _ (by simp) q⟩
    · exact ⟨_, .base .non, (ty_kit X.K q).1⟩
  · cases e; cases r
    rcases ht with q | ⟨q, rfl⟩
    · obtain ⟨c, C, rfl, _⟩ := id q
      exact ⟨_, .base (.bl _), flatc _ (by simp) q⟩
    · exact ⟨_, .base (.bl _), (ty_kit X.K q).2.1⟩
  · cases e; cases r
    rcases ht with q | ⟨q, rfl⟩
    · obtain ⟨c, C, rfl, _⟩ := id q
      exact ⟨_, .base (.int _), flatc _ (by simp) q⟩
    · exact ⟨_, .base (.int _), (ty_kit X.K q).2.2.1⟩
  · cases e; cases r
    rcases ht with q | ⟨q, rfl⟩
    · obtain ⟨c, C, rfl, _⟩ := id q
      exact ⟨_, .base (.str _), flatc _ (by simp) q⟩
    · exact ⟨_, .base (.str _), (ty_kit X.K q).2.2.2.1⟩
  · cases e
    cases r with
    | @tup _ a vs q w =>
      have tyx : TyX X.K H (.ref a) (.type "tuple") := by
        rcases q with (q | ⟨o, q⟩) | ⟨_, _, _, q, c, _⟩
        · exact .base (.tup q)
        · exact .fTuple q
        · exact .kTuple q c
      rcases ht with q | ⟨q, rfl⟩
      · obtain ⟨c, C, rfl, _⟩ := id q
        exact ⟨_, tyx, flatc _ (by simp) q⟩
      · exact ⟨_, tyx, (ty_kit X.K q).2.2.2.2.1⟩
  · rename_i ad
    obtain ⟨a, rfl, ha, hcell⟩ := R.of_ref r
    split at e
    · rename_i xs hx
      cases e
      obtain ⟨vs, hv, _⟩ := hcell _ hx
      rcases ht with q | ⟨q, rfl⟩
      · obtain ⟨c, C, rfl, _⟩ := id q
        exact ⟨_, .base (.lst hv), flatc _ (by simp) q⟩
      · exact ⟨_, .base (.lst hv), (ty_kit X.K q).2.2.2.2.2.1⟩
    · rename_i xs hx
      cases e
      obtain ⟨o, vs, hv, _⟩ := hcell _ hx
      rcases ht with q | ⟨q, rfl⟩
      · obtain ⟨c, C, rfl, _⟩ := id q
        exact ⟨_, .base (.frz hv), flatc _ (by simp) q⟩
      · exact ⟨_, .base (.frz hv), (ty_kit X.K q).2.2.2.2.2.1⟩
    · rename_i xs hx
      cases e
      obtain ⟨ws, hv, _⟩ := hcell _ hx
      rcases ht with q | ⟨q, rfl⟩
      · exact ⟨_, .base (.dK hv), flatc _ (by simp) q⟩
      · exact ⟨_, .base (.dK hv), (ty_kit X.K q).2.2.2.2.2.2⟩
    · rename_i c fs hx
      cases e
      obtain ⟨C, dx, gs, hC, hv, _⟩ := hcell _ hx
      have ik := gl.ins c C hC
      have tyx : TyX X.K H (.ref a) (.ref C) := .base (.ins hv (gl.cls c C hC) ik.ha ik.hn ik.tk ik.mr)
      rcases ht with ⟨d, D, rfl, rfl, hD⟩ | ⟨q, rfl⟩
      · refine ⟨_, tyx, ?_⟩
        rw [(gl.kit c C hC).2 d D hD]
        show some (c == d) = some (Ev.Ty.cls d == Ev.Ty.cls c)
        by_cases z : c = d
        · subst z; simp
        · rw [beq_eq_false_iff_ne.mpr z, show (Ev.Ty.cls d == Ev.Ty.cls c) = false from beq_eq_false_iff_ne.mpr fun e => z (by cases e; rfl)]
      · refine ⟨_, tyx, ?_⟩
        cases t with
        | cls c' => exact absurd rfl (q c')
        | int => exact (gl.kit c C hC).1.to _ (by simp [tyN])
        | bool => exact (gl.kit c C hC).1.to _ (by simp [tyN])
        | str => exact (gl.kit c C hC).1.to _ (by simp [tyN])
        | tuple => exact (gl.kit c C hC).1.to _ (by simp [tyN])
        | list => exact (gl.kit c C hC).1.to _ (by simp [tyN])
    · cases e
  · cases e
theorem g_isinst {t : Ev.Ty} {es : Ev.Es} {kn : List Ev.Nm} (ge : GEs S tab fuel T0 k es) : GE S tab fuel T0 k (.call (.isinst t) es kn) := by
  refine .plain (fun L X x hc ok σ H ι v h h' d rv R ev => ?_) (fun L x hc => ?_) (fun _ _ => by simp only [cAnd]) (fun _ _ => by simp only [cOr])
  · simp only [cE] at hc
    split at hc
    · rename_i x p a y py pos
      simp only [Bool.and_eq_true] at hc
      obtain ⟨⟨⟨⟨c1, c2⟩, c3⟩, c4⟩, c5⟩ := hc
      obtain ⟨g1, g2, g3⟩ := ok.glob c1
      obtain ⟨y1, y2, y3⟩ := ok.glob c4
      obtain ⟨m, hb⟩ := ok.gl.isi _ g2
      have hkn : kn = [] := by simpa using c3
      subst hkn
      simp only [Ev.evE] at ev
      split at ev
      · rename_i xs h1 e1
        have ev : Ev.bltin showsT (.isinst t) xs h1 = some (d, h') := by
          have : Ev.invoke (cxE tab fuel k) (.isinst t) [] xs h1 = Ev.bltin showsT (.isinst t) xs h1 := rfl
          rw [← this]; exact ev
        obtain ⟨x1, rfl⟩ : ∃ x1, xs = [x1] := by
          cases xs with
          | nil => cases ev
          | cons x1 r => cases r with
            | nil => exact ⟨x1, rfl⟩
            | cons => cases ev
        have ev : (Ev.isinst t x1 h1).map (fun b => (Ev.D.bl b, h1)) = some (d, h') := ev
        obtain ⟨b, e2, e3⟩ := Option.map_eq_some_iff.mp ev
        cases e3
        intro pins s tb I
        refine wpAny_Call_Name_kw (ld_blt I g1 m hb ?_ (okName_dbg g3).2.2 (okName_dbg g3).1)
        refine call_any (es := [a, .Name y py]) (ks := []) (P := fun _ => True) (by simp only [List.all_cons, c2]; rfl) (by rfl) (keeps_b _ _) ?_
        rw [star_cons _ X.env c2]
        -- the one argument, then the type
        have tyload : ∀ (H1 : Hp) (s1 : Shared) (Q : Value → Shared → Prop), Inv X pins σ H1 s1 → (∀ cv cu, ClsV cv cu → ((∃ c C, t = .cls c ∧ cu = .ref C ∧ S.cls c = some C) ∨ ((∀ c, t ≠ .cls c) ∧ cu = .type (tyN t))) → RelV cv cu → Q cu s1) → wpAny (model X.prog X.w) X.A (eval (.Name y py) X.env) Q X.xe s1 := fun H1 s1 Q I1 hQ => by
          have blt : ∀ {n : String}, X.mg y = none ∧ bootBuiltins y = some (.type n) → (∀ c, t ≠ .cls c) → n = tyN t → wpAny (model X.prog X.w) X.A (eval (.Name y py) X.env) Q X.xe s1 := fun {n} ⟨m', hb'⟩ hn en => by
            refine ld_blt I1 y1 m' hb' (hQ (.ty n) (.type n) (.ty n) (.inr ⟨hn, by rw [en]⟩) rfl) (okName_dbg y3).2.2 (okName_dbg y3).1
          cases t with
          | int => exact blt (ok.gl.bl _ _ _ y2 rfl) (fun c z => by cases z) rfl
          | bool => exact blt (ok.gl.tbool _ y2) (fun c z => by cases z) rfl
          | str => exact blt (ok.gl.bl _ _ _ y2 rfl) (fun c z => by cases z) rfl
          | tuple => exact blt (ok.gl.bl _ _ _ y2 rfl) (fun c z => by cases z) rfl
          | list => exact blt (ok.gl.bl _ _ _ y2 rfl) (fun c z => by cases z) rfl
          | cls c =>
            obtain ⟨C, _, _, _, _, _, _, m', hC, _⟩ := ok.gl.cl _ _ y2
            exact ld_glob I1 y1 m' (hQ (.ref C) (.ref C) (.own C) (.inl ⟨c, C, rfl, rfl, hC⟩) rfl) (okName_dbg y3).1
        have one2 : wpAny (model X.prog X.w) X.A (eval a X.env) (fun u s1 => ∃ vx H1, Inv X pins σ H1 s1 ∧ RelV vx u ∧ ∃ ι1, Pre ι ι1 ∧ Kp H H1 ∧ Rep X.K S.cls H1 ι1 h' ∧ RV X.K H1 ι1 x1 vx) X.xe s := by
          cases es with
          | nil => simp only [cEs] at c5; cases c5
          | cons e0 er =>
            simp only [cEs] at c5
            rw [Bool.and_eq_true] at c5
            simp only [Ev.evEs] at e1
            split at e1
            · rename_i x0 h0 e0'
              split at e1
              · rename_i xs0 h2 e2'
                cases e1
                cases er with
                | nil =>
                  simp only [Ev.evEs] at e2'
                  cases e2'
                  exact thn ((ge.hd _ _ rfl).se L X a c5.1 ok σ H ι v h _ _ rv R e0' pins s tb I) fun u s1 ⟨y1, H1, I1, ru, ι1, p1, k1, R1, r1⟩ => ⟨y1, H1, I1, ru, ι1, p1, k1, R1, r1⟩
                | cons => have := c5.2; simp only [cEs] at this; cases this
              · cases e1
            · cases e1
        refine Calls.spliced_cons (thk tb one2 fun u s1 t1 ⟨vx, H1, I1, ru, ι1, p1, k1, R1, r1⟩ => ?_)
        rw [star_cons _ X.env (by rfl : plainE (.Name y py) = true)]
        refine Calls.spliced_cons (tyload H1 s1 _ I1 fun cv cu hcv hct hrel => Calls.spliced_nil (wpAny_evalAll_nil ⟨trivial, ?_⟩))
        obtain ⟨ty, tyx, hk⟩ := isin_ok ok.gl hcv hct R1 r1 e2
        refine thn (call_isi pins s1 σ H1 [vx, cv] _ (PQ X.K S.cls H ι (.bl b) h') I1 (.cons ru (.cons hrel .nil)) ⟨vx, cv, ty, cu, b, rfl, hcv, tyx, hk, ι1, p1, k1, R1, .bl b⟩) fun _ _ z => z
      · cases ev
    · cases hc
  · simp only [cE] at hc
    split at hc
    · rfl
    · cases hc
theorem g_lenset {es : Ev.Es} {kn : List Ev.Nm} (ge : GEs S tab fuel T0 k es) : GE S tab fuel T0 k (.call .lenset es kn) := by
  refine .plain (fun L X x hc ok σ H ι v h h' d rv R ev => ?_) (fun L x hc => ?_) (fun _ _ => by simp only [cAnd]) (fun _ _ => by simp only [cOr])
  · simp only [cE] at hc
    split at hc
    · rename_i x p z pz a posz pos
      simp only [Bool.and_eq_true] at hc
      obtain ⟨⟨⟨⟨c1, c2⟩, c3⟩, c4⟩, c5⟩ := hc
      obtain ⟨g1, g2, g3⟩ := ok.glob c1
      obtain ⟨y1, y2, y3⟩ := ok.glob c2
      obtain ⟨m, hb⟩ := ok.gl.bl _ _ _ g2 rfl
      obtain ⟨m2, hb2⟩ := ok.gl.setf _ y2
      have hkn : kn = [] := by simpa using c4
      subst hkn
      cases es with
      | nil => simp only [cEs] at c5; cases c5
      | cons e0 er =>
        simp only [cEs] at c5
        rw [Bool.and_eq_true] at c5
        cases er with
        | cons => have := c5.2; simp only [cEs] at this; cases this
        | nil =>
          simp only [Ev.evE, Ev.evEs] at ev
          split at ev
          · rename_i xs h1 e1
            split at e1
            · rename_i x0 h0 e0'
              cases e1
              have ev : Ev.bltin showsT .lenset [x0] h1 = some (d, h') := ev
              cases x0 with
              | str t =>
                have ev : (if t.length < 4000 then some (Ev.D.int (Ev.uniq t).length, h1) else none) = some (d, h') := ev
                split at ev
                · rename_i hl
                  cases ev
                  intro pins s tb I
                  refine wpAny_Call_Name_kw (ld_blt I g1 m hb ?_ (okName_dbg g3).2.2 (okName_dbg g3).1)
                  refine call_any (ks := []) (P := fun _ => True) (by rfl) (by rfl) (keeps_b _ _) ?_
                  rw [star_cons _ X.env (by rfl)]
                  refine Calls.spliced_cons (wpAny_Call_Name_kw (ld_blt I y1 m2 hb2 ?_ (okName_dbg y3).2.2 (okName_dbg y3).1))
                  refine call_any (es := [a]) (ks := []) (P := fun _ => True) (by simp only [List.all_cons, c3]; rfl) (by rfl) (keeps_t _ _) ?_
                  rw [star_cons _ X.env c3]
                  refine Calls.spliced_cons (thn ((ge.hd _ _ rfl).se L X a c5.1 ok σ H ι v h _ _ rv R e0' pins s tb I) fun u s1 ⟨y, H1, I1, ru, ι1, p1, k1, R1, r1⟩ => Calls.spliced_nil (wpAny_evalAll_nil ⟨trivial, ?_⟩))
                  obtain ⟨rfl, hs⟩ := r1.strv
                  obtain ⟨tk, rfl⟩ := ru
                  have hsb : (sT t).cps.toList.length + 1 < scanBound := by
                    rw [sT_get]
                    have : scanBound = 4096 := rfl
                    omega
                  refine set_signs (I1.ok.hd ok.g.calm) hsb fun h2 tk2 hS hk => Calls.spliced_nil (wpAny_evalAll_nil ⟨trivial, ?_⟩)
                  obtain ⟨o, es', ep, t', ho, hex, hd, _, _, hlt, hf, hn⟩ := hS
                  have I2 : Inv X pins σ H1 { s1 with heap := h2, toks := tk2 } := I1.kept hk
                  have hsc : scanBound = 4096 := rfl
                  refine call_len_set ho hex hd hf (by omega) ⟨.int es'.size, H1, I2.tok _, ⟨_, rfl⟩, ι1, p1, k1, R1, ?_⟩
                  rw [hn, sT_get]
                  exact .int _
                · cases ev
              | _ => cases ev
            · cases e1
          · cases ev
    · cases hc
  · simp only [cE] at hc
    split at hc
    · rfl
    · cases hc
theorem g_call {f : Ev.Fn} {es : Ev.Es} {kn : List Ev.Nm} (ge : GEs S tab fuel T0 k es) : GE S tab fuel T0 k (.call f es kn) := by
  cases f with
  | isinst t => exact g_isinst ge
  | lenset => exact g_lenset ge
  | _ => exact g_call0 (fun t z => by cases z) (fun z => by cases z) ge
end
end EvS
set_option Elab.async false
set_option linter.all false
set_option maxRecDepth 100000
set_option maxHeartbeats 1000000
/-! EvY: targets, comprehensions. -/
namespace EvS
open PySem PySem.Spec PyProof.Rows L2
section
variable {S : Stc} {tab : Ev.Tab} {fuel T0 k : Nat} {a b c : Ev.E} {L : Lx} {X : Cx} {K : PySem.W.Frag} {H : Hp} {ι : List Addr}

theorem REnv.set {d : Ev.D} {y : V} (r : RV K H ι d y) : ∀ {v : Ev.Env} {σ : L2.St} {i : Nat}, REnv K H ι v σ → REnv K H ι (v.set i (some d)) (σ.set i (some y))
  | _, _, _, .nil => .nil
  | _, _, 0, .cons _ t => .cons r t
  | _, _, i + 1, .cons q t => .cons q (REnv.set (i := i) r t)
theorem REnv.none : ∀ {v : Ev.Env} {σ : L2.St} {i : Nat}, REnv K H ι v σ → REnv K H ι (v.set i none) (σ.set i none)
  | _, _, _, .nil => .nil
  | _, _, 0, .cons _ t => .cons trivial t
  | _, _, i + 1, .cons q t => .cons q (REnv.none (i := i) t)
theorem REnv.wipe {v : Ev.Env} {σ : L2.St} (r : REnv K H ι v σ) : ∀ own : List Nat, REnv K H ι (Ev.wipe v own) (L2.wipe σ own)
  | [] => r
  | i :: own => by
    unfold Ev.wipe L2.wipe
    exact (REnv.wipe r own).none
theorem sg_nameL {v : V} {σ : L2.St} {QS : L2.St → Hp → Prop} {i : Nat} {x : Str} {pos : Pos} (hN : X.N.Nodup) (hi : X.N[i]? = some x) (hl : L2.Loc X.env.scope x) (hf : X.fn x = true ∨ X.env.scope.names.lookup x = some .local) (q : QS (σ.set i (some v)) H) : SG X (.Name x pos) v σ H QS := fun pins s u tb I r =>
  wpAny_assign_Name (store_ok I hN hi hl r (fun s' I' => ⟨_, H, I', q⟩) hf)
theorem asgTs_len {Y : Ev.Cx} : ∀ {ts : Ev.Ts} {ds : List Ev.D} {v v' : Ev.Env} {h h' : Ev.Heap}, Ev.asgTs Y ts ds v h = some (v', h') → ds.length = ts.len
  | .nil, [], _, _, _, _, _ => rfl
  | .nil, _ :: _, _, _, _, _, e => by simp only [Ev.asgTs] at e; cases e
  | .cons t ts, [], _, _, _, _, e => by simp only [Ev.asgTs] at e; cases e
  | .cons t ts, d :: ds, v, v', h, h', e => by
    simp only [Ev.asgTs] at e
    split at e
    · rename_i v2 h2 e2
      simp only [List.length_cons, Ev.Ts.len]
      rw [asgTs_len e]
    · cases e
theorem gt_nm {i : Nat} : GT S tab fuel T0 k (.nm i) where
  sg := fun L X x hc ok σ H ι v v' h h' d y rv R rd ev => by
    simp only [cT] at hc
    split at hc
    · obtain ⟨h1, h2, h3⟩ := ok.stores hc
      simp only [Ev.asgT] at ev
      obtain ⟨v2, e1, e2⟩ := Option.map_eq_some_iff.mp ev
      cases e2
      unfold Ev.setLoc at e1
      split at e1
      · cases e1
        refine sg_nameL ok.ndX h1 h2 h3 ⟨ι, .refl _, .refl _, R, rv.set rd, fun j hj => ?_⟩
        have : i ≠ j := fun e => hj (by simp [Ev.T.slots, e])
        rw [List.getElem?_set_ne this]
      · cases e1
    · cases hc
theorem gt_tup {ts : Ev.Ts} (gt : GTs S tab fuel T0 k ts) : GT S tab fuel T0 k (.tup ts) where
  sg := fun L X x hc ok σ H ι v v' h h' d y rv R rd ev => by
    simp only [cT] at hc
    split at hc
    · rename_i xs n pos
      rw [Bool.and_eq_true] at hc
      simp only [Ev.asgT] at ev
      split at ev
      · rename_i ds e1
        obtain ⟨p, vs, rfl, q, w⟩ := items_of R rd e1
        refine sg_tup ok.g.calm hc.1 q ?_ ?_
        · rw [w.length, asgTs_len ev, gt.len L xs hc.2]
        · have := gt.sg L X xs [] hc.1 hc.2 ok σ H ι v v' h h' ds vs [] (TQ X.K S.cls H ι v' h' (Ev.T.tup ts).slots σ) rv R w ev (fun σ' H' q => sgs_nil q)
          simpa using this
      · cases ev
    · cases hc
theorem gt_stup {ts : Ev.Ts} {i : Nat} (gt : GTs S tab fuel T0 k ts) : GT S tab fuel T0 k (.stup ts i) where
  sg := fun L X x hc ok σ H ι v v' h h' d y rv R rd ev => by
    simp only [cT] at hc
    split at hc
    · rename_i xs n pos
      split at hc
      · rename_i z zp zq hl
        simp only [Bool.and_eq_true] at hc
        obtain ⟨⟨c1, c2⟩, c3⟩ := hc
        have hx : xs = xs.dropLast ++ [.Starred (.Name z zp) zq] := by
          obtain ⟨ys, e⟩ := List.getLast?_eq_some_iff.mp hl
          rw [e, List.dropLast_concat]
        simp only [Ev.asgT] at ev
        split at ev
        · rename_i ds e1
          split at ev
          · rename_i hlen
            split at ev
            · rename_i v2 h2 e2
              obtain ⟨v3, e3, e4⟩ := Option.map_eq_some_iff.mp ev
              cases e4
              unfold Ev.setLoc at e3
              split at e3
              · cases e3
                obtain ⟨p, vs, rfl, q, w⟩ := items_of R rd e1
                rw [hx]
                have hn : xs.dropLast.length = ts.len := gt.len L _ c3
                refine sg_stup ok.g.calm c2 q (by rw [hn, w.length]; exact hlen.1) fun D hD => ?_
                obtain ⟨h1, h2', h3⟩ := ok.stores c1
                have R1 : Rep X.K S.cls (upd H D (.lst (vs.drop xs.dropLast.length))) (ι ++ [D]) (h.new (.lst (ds.drop ts.len))) :=
                  R.new hD ⟨_, upd_same, by rw [hn]; exact (w.drop _).mono (.fresh hD) (.app _ _)⟩
                refine gt.sg L X xs.dropLast [.Name z zp] c2 c3 ok σ _ (ι ++ [D]) v v2 _ h' (ds.take ts.len) (vs.take xs.dropLast.length) [.ref D] _ (REnv.mono (.fresh hD) (.app _ _) rv) R1 (by rw [hn]; exact (w.take _).mono (.fresh hD) (.app _ _)) e2 fun σ' H' ⟨ι', p', k', R', rv', st'⟩ => ?_
                refine sgs_cons rfl (sg_nameL ok.ndX h1 h2' h3 (sgs_nil ?_))
                refine ⟨ι', (Pre.app _ _).trans p', (Kp.fresh hD).trans k', R', rv'.set (.ref (p' _ _ ?_)), fun j hj => ?_⟩
                · rw [← R.len, List.getElem?_append_right (Nat.le_refl _)]; simp
                · simp only [Ev.T.slots, List.mem_cons, not_or] at hj
                  rw [List.getElem?_set_ne (fun e => hj.1 e.symm), st' j hj.2]
              · cases e3
            · cases ev
          · cases ev
        · cases ev
      · cases hc
    · cases hc
theorem gt_idx (ga : GE S tab fuel T0 k a) (gb : GE S tab fuel T0 k b) : GT S tab fuel T0 k (.idx a b) where
  sg := fun L X x hc ok σ H ι v v' h h' d y rv R rd ev => by
    simp only [cT] at hc
    split at hc
    · simp only [Bool.and_eq_true] at hc
      obtain ⟨⟨c0, c1⟩, c2⟩ := hc
      simp only [Ev.asgT] at ev
      split at ev
      · rename_i x1 h1 e1
        split at ev
        · rename_i x2 h2 e2
          obtain ⟨h3, e3, e4⟩ := Option.map_eq_some_iff.mp ev
          cases e4
          refine sg_idx (notSlice_ne c0) ((ga.se L X _ c1 ok σ H ι v h h1 x1 rv R e1).imp fun vx H1 ⟨ι1, p1, k1, R1, r1⟩ => (gb.se L X _ c2 ok σ H1 ι1 v h1 h2 x2 (REnv.mono k1 p1 rv) R1 e2).imp fun vy H2 ⟨ι2, p2, k2, R2, r2⟩ => ?_)
          intro pins s ov iv u I q1 q2 q3
          refine thn (ixp_ok ok.hu e3 R2 (r1.mono k2 p2) r2 (rd.mono (k1.trans k2) (p1.trans p2)) pins s ov iv u I q1 q2 q3) fun _ s' ⟨H3, I3, ι3, p3, k3, R3⟩ => ⟨H3, I3, ι3, (p1.trans p2).trans p3, (k1.trans k2).trans k3, R3, REnv.mono ((k1.trans k2).trans k3) ((p1.trans p2).trans p3) rv, fun _ _ => rfl⟩
        · cases ev
      · cases ev
    · cases hc
theorem gt_fld {f : Ev.Nm} (ga : GE S tab fuel T0 k a) : GT S tab fuel T0 k (.fld a f) where
  sg := fun L X x hc ok σ H ι v v' h h' d y rv R rd ev => by
    simp only [cT] at hc
    split at hc
    · simp only [Bool.and_eq_true, beq_iff_eq] at hc
      obtain ⟨⟨c0, c1⟩, c2⟩ := hc
      subst c0
      simp only [Ev.asgT] at ev
      split at ev
      · rename_i x1 h1 e1
        obtain ⟨h3, e3, e4⟩ := Option.map_eq_some_iff.mp ev
        cases e4
        refine sg_fld ((ga.se L X _ c2 ok σ H ι v h h1 x1 rv R e1).imp fun vx H1 ⟨ι1, p1, k1, R1, r1⟩ => ?_)
        obtain ⟨p, ci, C, dx, gs, e5, e6, e7, e8, ι3, p3, k3, R3⟩ := fput_ok e3 R1 r1 (rd.mono k1 p1)
        exact ⟨p, C, dx, gs, e5, e7, ok.gl.cls _ _ e6, ok.gl.noat _ _ _ e6 c1, e8, ι3, p1.trans p3, k1.trans k3, R3, REnv.mono (k1.trans k3) (p1.trans p3) rv, fun _ _ => rfl⟩
      · cases ev
    · cases hc
theorem TQ.after {v' : Ev.Env} {h' : Ev.Heap} {own own' : List Nat} {σ σ1 σ' : L2.St} {cls : Nat → Option Addr} {H H1 H' : Hp} {ι ι1 : List Addr} (p : Pre ι ι1) (kp : Kp H H1) (st : ∀ i, i ∉ own → σ1[i]? = σ[i]?) (q : TQ K cls H1 ι1 v' h' own' σ1 σ' H') : TQ K cls H ι v' h' (own ++ own') σ σ' H' := by
  obtain ⟨ι', p', k', R, r, s⟩ := q
  exact ⟨ι', p.trans p', kp.trans k', R, r, fun i hi => by
    rw [List.mem_append, not_or] at hi
    rw [s i hi.2, st i hi.1]⟩
theorem gts_nil : GTs S tab fuel T0 k .nil where
  sg := fun L X xs more hp hc ok σ H ι v v' h h' ds ys zs Q rv R rd ev q => by
    simp only [cTs] at hc
    split at hc
    · cases rd with
      | nil =>
        simp only [Ev.asgTs] at ev
        cases ev
        exact q σ H ⟨ι, .refl _, .refl _, R, rv, fun _ _ => rfl⟩
      | cons => simp only [Ev.asgTs] at ev; cases ev
    · cases hc
  len := fun L xs hc => by
    simp only [cTs] at hc
    split at hc
    · rfl
    · cases hc
  al := fun L X xs hne hp hc => by
    cases xs with
    | nil => exact absurd rfl hne
    | cons => simp only [cTs] at hc; cases hc
theorem gts_cons {t : Ev.T} {ts : Ev.Ts} (gt : GT S tab fuel T0 k t) (gs : GTs S tab fuel T0 k ts) : GTs S tab fuel T0 k (.cons t ts) where
  sg := fun L X xs more hp hc ok σ H ι v v' h h' ds ys zs Q rv R rd ev q => by
    simp only [cTs] at hc
    split at hc
    · rename_i x r
      rw [Bool.and_eq_true] at hc
      rw [List.all_cons, Bool.and_eq_true] at hp
      cases rd with
      | nil => simp only [Ev.asgTs] at ev; cases ev
      | cons r1 rr =>
        simp only [Ev.asgTs] at ev
        split at ev
        · rename_i v2 h2 e2
          refine sgs_cons hp.1 ((gt.sg L X x hc.1 ok σ H ι v v2 h h2 _ _ rv R r1 e2).imp fun σ1 H1 ⟨ι1, p1, k1, R1, rv1, st1⟩ => ?_)
          exact gs.sg L X r more hp.2 hc.2 ok σ1 H1 ι1 v2 v' h2 h' _ _ zs Q rv1 R1 (rr.mono k1 p1) ev fun σ' H' tq => q σ' H' (tq.after p1 k1 st1)
        · cases ev
    · cases hc
  len := fun L xs hc => by
    simp only [cTs] at hc
    split at hc
    · rw [Bool.and_eq_true] at hc
      simp only [List.length_cons, Ev.Ts.len]
      rw [gs.len L _ hc.2]
    · cases hc
  al := fun L X xs hne hp hc ok σ H ι v v' h h' d y rv R rd ev => by
    simp only [cTs] at hc
    split at hc
    · rename_i x r
      rw [Bool.and_eq_true] at hc
      rw [List.all_cons, Bool.and_eq_true] at hp
      simp only [Ev.asgAll] at ev
      split at ev
      · rename_i v2 h2 e2
        have hg := gt.sg L X x hc.1 ok σ H ι v v2 h h2 _ _ rv R rd e2
        cases r with
        | nil =>
          refine sall_one hp.1 (hg.imp fun σ1 H1 ⟨ι1, p1, k1, R1, rv1, st1⟩ => ?_)
          have : ts = .nil := by
            cases ts with
            | nil => rfl
            | cons => have := hc.2; simp only [cTs] at this; cases this
          subst this
          simp only [Ev.asgAll] at ev
          cases ev
          exact ⟨ι1, p1, k1, R1, rv1, fun i hi => st1 i (by simp only [Ev.Ts.slots, List.mem_append, not_or] at hi; exact hi.1)⟩
        | cons x2 r =>
          have hp2 := hp.2
          rw [List.all_cons, Bool.and_eq_true] at hp2
          refine sall_cons hp.1 hp2.1 (hg.imp fun σ1 H1 ⟨ι1, p1, k1, R1, rv1, st1⟩ => ?_)
          exact fun pins s u tb I r => thn (gs.al L X _ (by simp) hp.2 hc.2 ok σ1 H1 ι1 v2 v' h2 h' d y rv1 R1 (rd.mono k1 p1) ev pins s u tb I r) fun _ _ ⟨σ2, H2, I2, z⟩ => ⟨σ2, H2, I2, z.after p1 k1 st1⟩
      · cases ev
    · cases hc
/-! ### comprehensions -/
mutual
theorem asgT_keep {Y : Ev.Cx} : ∀ {t : Ev.T} {d : Ev.D} {v v' : Ev.Env} {h h' : Ev.Heap}, Ev.asgT Y t d v h = some (v', h') → v'.length = v.length
  | .nm i, d, v, v', h, h', e => by
    simp only [Ev.asgT] at e
    obtain ⟨v2, e1, e2⟩ := Option.map_eq_some_iff.mp e
    cases e2
    unfold Ev.setLoc at e1
    split at e1
    · cases e1; simp
    · cases e1
  | .tup ts, d, v, v', h, h', e => by
    simp only [Ev.asgT] at e
    split at e
    · exact asgTs_keep e
    · cases e
  | .stup ts i, d, v, v', h, h', e => by
    simp only [Ev.asgT] at e
    split at e
    · split at e
      · split at e
        · rename_i v2 h2 e2
          obtain ⟨v3, e3, e4⟩ := Option.map_eq_some_iff.mp e
          cases e4
          unfold Ev.setLoc at e3
          split at e3
          · cases e3
            rw [List.length_set, asgTs_keep e2]
          · cases e3
        · cases e
      · cases e
    · cases e
  | .idx a i, d, v, v', h, h', e => by
    simp only [Ev.asgT] at e
    split at e
    · split at e
      · obtain ⟨h3, e3, e4⟩ := Option.map_eq_some_iff.mp e
        cases e4; rfl
      · cases e
    · cases e
  | .fld a f, d, v, v', h, h', e => by
    simp only [Ev.asgT] at e
    split at e
    · obtain ⟨h3, e3, e4⟩ := Option.map_eq_some_iff.mp e
      cases e4; rfl
    · cases e
theorem asgTs_keep {Y : Ev.Cx} : ∀ {ts : Ev.Ts} {ds : List Ev.D} {v v' : Ev.Env} {h h' : Ev.Heap}, Ev.asgTs Y ts ds v h = some (v', h') → v'.length = v.length
  | .nil, [], _, _, _, _, e => by simp only [Ev.asgTs] at e; cases e; rfl
  | .nil, _ :: _, _, _, _, _, e => by simp only [Ev.asgTs] at e; cases e
  | .cons t ts, [], _, _, _, _, e => by simp only [Ev.asgTs] at e; cases e
  | .cons t ts, d :: ds, v, v', h, h', e => by
    simp only [Ev.asgTs] at e
    split at e
    · rename_i v2 h2 e2
      rw [asgTs_keep e, asgT_keep e2]
    · cases e
end
theorem wipe_in {σ : L2.St} {i : Nat} : ∀ {vs : List Nat}, i ∈ vs → i < σ.length → (L2.wipe σ vs)[i]? = some none
  | v :: vs, h, hl => by
    unfold L2.wipe
    by_cases e : v = i
    · subst e
      rw [List.getElem?_set_self (by rw [wipe_length]; exact hl)]
    · rw [List.getElem?_set_ne e]
      rcases List.mem_cons.mp h with z | z
      · exact absurd z.symm e
      · exact wipe_in z hl
theorem wipe_eq {σ τ : L2.St} {vs : List Nat} (hl : τ.length = σ.length) (h : ∀ i, i ∉ vs → τ[i]? = σ[i]?) : L2.wipe τ vs = L2.wipe σ vs := by
  refine List.ext_getElem? fun i => ?_
  by_cases hi : i ∈ vs
  · by_cases hb : i < σ.length
    · rw [wipe_in hi hb, wipe_in hi (by omega)]
    · rw [List.getElem?_eq_none (by rw [wipe_length]; omega), List.getElem?_eq_none (by rw [wipe_length]; omega)]
  · rw [wipe_out hi, wipe_out hi, h i hi]
theorem own_names {N : List Str} : ∀ {own : List Nat}, (own.all fun i => (N[i]?).isSome) = true → (own.filterMap fun i => (N[i]?).map fun y => (y, i)).map (·.2) = own
  | [], _ => rfl
  | i :: own, h => by
    rw [List.all_cons, Bool.and_eq_true] at h
    obtain ⟨y, hy⟩ := Option.isSome_iff_exists.mp h.1
    rw [List.filterMap_cons, hy]
    simp only [Option.map_some, List.map_cons]
    rw [own_names h.2]
/-- the loop of a comprehension -/
theorem lc_ok {e : Ev.E} {t : Ev.T} {it : Ev.It} {cn : Ev.Eo} {own : List Nat} (ge : GE S tab fuel T0 k e) (gt : GT S tab fuel T0 k t) (gi : GI S tab fuel T0 k it) (gc : GO S tab fuel T0 k cn)
    {L : Lx} {X : Cx} {elt tg iter : Expr} {ifs : List Expr} {scope : Scope} (c1 : cI L it tg iter = true) (c2 : (t.slots.all fun i => own.contains i) = true) (c3 : cT (L.inner scope) t tg = true) (c4 : cE (L.inner scope) e elt = true) (c5 : cC (L.inner scope) cn ifs = true)
    (ok : XOk S tab fuel T0 k L X) {σ : L2.St} {H : Hp} {ι : List Addr} {v : Ev.Env} {h h' : Ev.Heap} {d : Ev.D} (rv : REnv X.K H ι v σ) (R : Rep X.K S.cls H ι h) (ev : Ev.evE (cxE tab fuel k) (.comp e t it cn own) v h = some (d, h')) :
    LC X elt tg iter ifs scope own σ H (PQ X.K S.cls H ι d h') := by
  simp only [Ev.evE] at ev
  split at ev
  · rename_i src h1 e1
    split at ev
    · rename_i h2 e2
      cases ev
      intro pins s tb I
      refine thn (gi.si L X tg iter c1 ok σ H ι v h h1 src rv R e1 pins s tb I) fun u s1 hu => thn hu fun itv s2 hp => ?_
      obtain ⟨it', fp, tn, J, H1, eit, I2, T, st, f2, ι1, p1, k1, R1, so⟩ := hp
      refine ⟨it', fp, tn, J, H1, eit, I2, T, st, f2, fun D hD => ?_⟩
      have R2 : Rep X.K S.cls (upd H1 D (.lst [])) (ι1 ++ [D]) (h1.new (.lst [])) := R1.new hD ⟨[], upd_same, .nil⟩
      have hr : (ι1 ++ [D])[h1.size]? = some D := by rw [← R1.len, List.getElem?_append_right (Nat.le_refl _)]; simp
      generalize hf : (fun x h => match Ev.asgT (cxE tab fuel k) t x (Ev.wipe v own) h with
        | some (v2, h2) => match Ev.evC (cxE tab fuel k) cn v2 h2 with
          | some (true, h3) => match Ev.evE (cxE tab fuel k) e v2 h3 with
            | some (y, h4) => some (some y, h4)
            | none => none
          | some (false, h3) => some (none, h3)
          | none => none
        | none => none) = f at e2
      have ww : ∀ {Ha Hb : Hp} {ιa ιb : List Addr} {σ2 : L2.St} {x : Ev.D} {v2 : Ev.Env} {hh h6 : Ev.Heap}, REnv X.K Ha ιa (Ev.wipe v own) (L2.wipe σ own) → REnv X.K Hb ιb v2 σ2 → Ev.asgT (cxE tab fuel k) t x (Ev.wipe v own) hh = some (v2, h6) → (∀ i, i ∉ t.slots → σ2[i]? = (L2.wipe σ own)[i]?) → L2.wipe σ2 own = L2.wipe σ own :=
        fun {Ha Hb ιa ιb σ2 x v2 hh h6} ra rb ea st => by
          have hl : σ2.length = (L2.wipe σ own).length := by rw [← Paired.length rb, asgT_keep ea, Paired.length ra]
          refine (wipe_eq hl fun i hi => st i fun z => hi ?_).trans (wipe_eq (by rw [wipe_length]) fun i hi => wipe_out hi)
          have := List.all_eq_true.mp c2 i z
          simpa using this
      refine ⟨fun i m H' => ∃ ι' hh, Pre (ι1 ++ [D]) ι' ∧ Kp (upd H1 D (.lst [])) H' ∧ Rep X.K S.cls H' ι' hh ∧ Ev.loopC src f h1.size m i hh = some h', ⟨_, ι1 ++ [D], _, .refl _, .refl _, R2, e2⟩, fun i m H' w => ?_⟩
      obtain ⟨ι', hh, p', k', R', e3⟩ := w
      have kA : Kp H1 H' := (Kp.fresh hD).trans k'
      have pA : Pre ι1 ι' := (Pre.app _ _).trans p'
      cases m with
      | zero => simp only [Ev.loopC] at e3; cases e3
      | succ m =>
        simp only [Ev.loopC] at e3
        split at e3
        · rename_i en
          cases e3
          exact .inl ⟨so.stop i H' ι' h' kA pA R' en, ι', p1.trans pA, k1.trans kA, R', .ref (p' _ _ hr)⟩
        · rename_i x en
          obtain ⟨g1, g2⟩ := so.go i H' ι' hh x kA pA R' en
          refine .inr ⟨g1, fun H'' => ∃ ι'' h'', Pre (ι1 ++ [D]) ι'' ∧ Kp (upd H1 D (.lst [])) H'' ∧ Rep X.K S.cls H'' ι'' h'' ∧ Ev.loopC src f h1.size m (i + 1) h'' = some h', fun H'' z => ⟨m, Nat.lt_succ_self _, z⟩, fun y Hy hy s0 H0 C cl fp t0 => ?_⟩
          obtain ⟨k3, R3, r3⟩ := g2 y Hy hy
          have kB := k'.trans k3
          have okI := ok.inner (scope := scope) (s0 := s0) (H0 := H0) (C := C) (cl := cl) (fp := fp) t0
          have rvW : REnv X.K Hy ι' (Ev.wipe v own) (L2.wipe σ own) := REnv.wipe (REnv.mono (k1.trans (kA.trans k3)) (p1.trans pA) rv) own
          split at e3
          · rename_i yv h5 e4
            rw [← hf] at e4
            dsimp only at e4
            split at e4
            · rename_i v2 h6 e5
              refine (gt.sg (L.inner scope) _ tg c3 okI (L2.wipe σ own) Hy ι' (Ev.wipe v own) v2 hh h6 x y rvW R3 r3 e5).imp fun σ2 H2 ⟨ι2, p2, k2, R2', rv2, st2⟩ => ⟨?_, ?_⟩
              · exact ww rvW rv2 e5 st2
              · split at e4
                · rename_i h7 e6
                  split at e4
                  · rename_i y' h8 e7
                    cases e4
                    split at e3
                    · rename_i acc e8
                      split at e3
                      · rename_i hl
                        refine fun pins s tb I => thn (gc.sc (L.inner scope) _ ifs c5 okI σ2 H2 ι2 v2 h6 h7 true rv2 R2' e6 pins s tb I) fun bb s' ⟨H3, I3, eb, ι3, p3, k4, R4⟩ => ⟨H3, I3, ?_⟩
                        dsimp only
                        rw [if_pos eb]
                        refine (ge.se (L.inner scope) _ elt c4 okI σ2 H3 ι3 v2 h7 h5 _ (REnv.mono k4 p3 rv2) R4 e7).imp fun yy H4 ⟨ι4, p4, k5, R5, r5⟩ => ?_
                        have hr4 : ι4[h1.size]? = some D := p4 _ _ (p3 _ _ (p2 _ _ (p' _ _ hr)))
                        obtain ⟨vs, hv, w⟩ := R5.at_ _ _ _ hr4 e8
                        have kp : Kp H4 (upd H4 D (.lst (vs ++ [yy]))) := .write hv True.intro
                        have R6 : Rep X.K S.cls (upd H4 D (.lst (vs ++ [yy]))) ι4 (h5.put h1.size (.lst (acc ++ [yv]))) := Rep.put R5 hr4 hv True.intro ⟨_, upd_same, (w.mono kp (.refl _)).app (.cons (r5.mono kp (.refl _)) .nil)⟩
                        exact ⟨vs, hv, by rw [w.length, ← LINE_eq]; exact hl, ι4, _, ((p'.trans p2).trans p3).trans p4, (((kB.trans k2).trans k4).trans k5).trans kp, R6, e3⟩
                      · cases e3
                    · cases e3
                  · cases e4
                · cases e4
                · cases e4
            · cases e4
          · rename_i h5 e4
            rw [← hf] at e4
            dsimp only at e4
            split at e4
            · rename_i v2 h6 e5
              refine (gt.sg (L.inner scope) _ tg c3 okI (L2.wipe σ own) Hy ι' (Ev.wipe v own) v2 hh h6 x y rvW R3 r3 e5).imp fun σ2 H2 ⟨ι2, p2, k2, R2', rv2, st2⟩ => ⟨?_, ?_⟩
              · exact ww rvW rv2 e5 st2
              · split at e4
                · rename_i h7 e6
                  split at e4
                  · cases e4
                  · cases e4
                · rename_i h7 e6
                  cases e4
                  refine fun pins s tb I => thn (gc.sc (L.inner scope) _ ifs c5 okI σ2 H2 ι2 v2 h6 h5 false rv2 R2' e6 pins s tb I) fun bb s' ⟨H3, I3, eb, ι3, p3, k4, R4⟩ => ⟨H3, I3, ?_⟩
                  dsimp only
                  rw [if_neg (by rw [eb]; exact Bool.false_ne_true)]
                  exact ⟨ι3, h5, (p'.trans p2).trans p3, (kB.trans k2).trans k4, R4, e3⟩
                · cases e4
            · cases e4
          · cases e3
        · cases e3
    · cases ev
  · cases ev
end
end EvS
set_option Elab.async false
set_option linter.all false
set_option maxRecDepth 100000
set_option maxHeartbeats 1000000
/-! EvW: statements. -/
namespace EvS
open PySem PySem.Spec PyProof.Rows L2
/-! ### t += u of tuples -/
section
variable {prog : Program} {w : World} {A : Around} {E : Value → Shared → Prop} {s : Shared}
theorem noI_tup : typeLookup (.type "tuple") (dunderI "add") = pure none := by rw [typeLookup_type, builtinLookup_eq_fast]; kernel_rfl
theorem icat_meets {a b : Value} {B : Builtin} {S : PySem.Spec} {Q : Value → Shared → Prop} (ha : s.TypeIs a "tuple") (hb : s.TypeIs b "tuple") (entry : entryFor table "tuple.__add__" = some B) (args : argsOk "tuple.__add__" ⟨[a, b], []⟩) (g : Meets (B ⟨[a, b], []⟩) S) (h : S A (wants Q E) s) :
    wpAny (model prog w) A (inplaceOp .Add a b) Q E s := wpAny_inplaceOp_concat ha hb noI_tup noFill_tuple_add seq_tuple_add (call_meets PySem.F.slot_tuple_add ha entry args g h)
theorem icat_tup {t b : Addr} {vs ws : List Value} {Q : Value → Shared → Prop} (ht : IsTup s.heap t vs.toArray) (hb : IsTup s.heap b ws.toArray) (h0 : vs = [] → Q (.ref b) s) (h1 : vs ≠ [] → ws = [] → Q (.ref t) s)
    (h2 : vs ≠ [] → ws ≠ [] → Q (.ref s.heap.objs.size) { s with heap := s.heap.push { cls := .type "tuple", data := .seq (vs ++ ws).toArray } })
    (hsz : vs.length + ws.length ≤ sizeLine) : wpAny (model prog w) A (inplaceOp .Add (.ref t) (.ref b)) Q E s := by
  obtain ⟨⟨cls, dd, data, sl⟩, ho, hc, n, hd⟩ := id ht
  obtain ⟨⟨cls2, dd2, data2, sl2⟩, ho2, hc2, n2, hd2⟩ := id hb
  simp only at hc hd hc2 hd2
  subst hc hd hc2 hd2
  have e : vs.toArray ++ ws.toArray = (vs ++ ws).toArray := by simp
  by_cases hv : vs = []
  · subst hv
    exact icat_meets ⟨_, ho, rfl⟩ ⟨_, ho2, rfl⟩ PySem.F.entry_tuple_add (PySem.F.args_tuple_add_2 _ _) (tuple_addW0 t b ([] : List Value).toArray ws.toArray n n2 dd dd2 sl sl2 (by simp)) ⟨ho, ho2, h0 rfl⟩
  · by_cases hw : ws = []
    · exact icat_meets ⟨_, ho, rfl⟩ ⟨_, ho2, rfl⟩ PySem.F.entry_tuple_add (PySem.F.args_tuple_add_2 _ _) (tuple_addW1 t b vs.toArray ws.toArray n n2 dd dd2 sl sl2 (by simpa using hv) (by simp [hw])) ⟨ho, ho2, h1 hv hw⟩
    · refine icat_meets ⟨_, ho, rfl⟩ ⟨_, ho2, rfl⟩ PySem.F.entry_tuple_add (PySem.F.args_tuple_add_2 _ _) (tuple_addW2 t b vs.toArray ws.toArray n n2 dd dd2 sl sl2 (by simpa using hv) (by simpa using hw) (by rw [List.size_toArray, List.size_toArray]; exact hsz)) ⟨ho, ho2, ?_⟩
      rw [e]
      exact h2 hv hw
end
section
variable {X : Cx} {cls : Nat → Option Addr} {σ : L2.St} {H : Hp} {ι : List Addr} {h h' : Ev.Heap}
theorem iop_catA : OpR X (inplaceOp .Add) (rCatA X.K) := by
  intro pins s σ H x y v u Q I rx ry h
  obtain ⟨a, b, xs, ys, rfl, rfl, ha, hb, hz, q0, q1, q2⟩ := h
  cases rx
  cases ry
  obtain ⟨its, r1, p1, _⟩ := I.tuple ha
  obtain ⟨its2, r2, p2, _⟩ := I.tuple hb
  refine icat_tup p1 p2 (fun z => ⟨.ref b, H, I, rfl, q0 (r1.nil_iff.mp z)⟩) (fun z z2 => ⟨.ref a, H, I, rfl, q1 (fun w => z (r1.nil_iff.mpr w)) (r2.nil_iff.mp z2)⟩) (fun z z2 => ?_) (by rw [← r1.length, ← r2.length]; exact hz)
  refine ⟨.ref s.heap.objs.size, _, I.laid (t' := s.toks) (o := .tup (xs ++ ys)) (fun b ob q => Heap.get?_push_of_some _ q) (Nat.le_refl _) ?_, rfl, q2 (fun w => z (r1.nil_iff.mpr w)) (fun w => z2 (r2.nil_iff.mpr w)) _ (I.hok.fresh (Nat.le_refl _))⟩
  exact ⟨by rw [List.length_append]; exact hz, _, r1.append r2, IsTup.new _ _⟩
theorem sf_aug {o : Ev.BOp} {x y d : Ev.D} {vx vy : V} (e : Ev.augV o x y h = some (d, h')) (R : Rep X.K cls H ι h) (rx : RV X.K H ι x vx) (ry : RV X.K H ι y vy) :
    SF2 X (inplaceOp (opO o)) vx vy σ H (PQ X.K cls H ι d h') := by
  have hL := LINE_eq
  unfold Ev.augV at e
  split at e
  · cases e
  · rename_i hx
    split at e
    · unfold Ev.binV at e
      split at e
      · cases rx
        cases ry
        obtain ⟨k, e1, e2⟩ := Option.map_eq_some_iff.mp e
        cases e2
        cases e1
        exact .of iop_add ⟨_, _, rfl, rfl, .here R (.int _)⟩
      · cases rx
        cases ry
        dsimp only at e
        split at e
        · cases e
          exact .of iop_add_str ⟨_, _, rfl, rfl, by rw [sT_len, sT_len]; omega, .here R (by rw [← sT_app]; exact .str _ (by rw [List.length_append]; omega))⟩
        · cases e
      · cases rx with
        | tup t1 r1 => cases ry with
          | tup t2 r2 =>
            dsimp only at e
            split at e
            · cases e
              refine .of iop_catA ⟨_, _, _, _, rfl, rfl, t1, t2, by rw [r1.length, r2.length]; omega, fun z => ?_, fun z1 z2 => ?_, fun z1 z2 p hp => ?_⟩
              · subst z
                cases r1
                exact .here R (.tup t2 r2)
              · subst z2
                cases r2
                rw [List.append_nil]
                exact .here R (.tup t1 r1)
              · exact .tup R hp (r1.app r2)
            · cases e
      · dsimp only at e; cases e
      · exact absurd rfl (hx _)
      · exact absurd rfl (hx _)
      · cases e
    · unfold Ev.binV at e
      split at e
      · cases rx
        cases ry
        obtain ⟨k, e1, e2⟩ := Option.map_eq_some_iff.mp e
        cases e2
        cases e1
        exact .of iop_sub ⟨_, _, rfl, rfl, .here R (.int _)⟩
      · dsimp only at e; cases e
      · dsimp only at e; cases e
      · dsimp only at e; cases e
      · exact absurd rfl (hx _)
      · exact absurd rfl (hx _)
      · cases e
    · cases e
end

/-! ### what is to be shown of statements -/
def SQ (K : PySem.W.Frag) (cls : Nat → Option Addr) (H : Hp) (ι : List Addr) (v' : Ev.Env) (h' : Ev.Heap) : L2.St → Hp → Prop := fun σ' H' =>
  ∃ ι', Pre ι ι' ∧ Kp H H' ∧ Rep K cls H' ι' h' ∧ REnv K H' ι' v' σ'
def FinQ (K : PySem.W.Frag) (cls : Nat → Option Addr) (H : Hp) (ι : List Addr) (fl : Ev.Fl) (v' : Ev.Env) (h' : Ev.Heap) (D : Ends) : Prop := match fl with
  | .nx => ∀ σ' H', SQ K cls H ι v' h' σ' H' → D.nx σ' H'
  | .rt d => ∀ y H', PQ K cls H ι d h' y H' → D.rt y H'
  | .bk => ∀ σ' H', SQ K cls H ι v' h' σ' H' → D.bk σ' H'
  | .ct => ∀ σ' H', SQ K cls H ι v' h' σ' H' → D.ct σ' H'
section
variable {K : PySem.W.Frag} {cls : Nat → Option Addr} {H H1 : Hp} {ι ι1 : List Addr}
theorem SQ.after {v' : Ev.Env} {h' : Ev.Heap} {σ' : L2.St} {H' : Hp} (p : Pre ι ι1) (kp : Kp H H1) (q : SQ K cls H1 ι1 v' h' σ' H') : SQ K cls H ι v' h' σ' H' := by
  obtain ⟨ι', p', k', R, r⟩ := q
  exact ⟨ι', p.trans p', kp.trans k', R, r⟩
theorem FinQ.after {fl : Ev.Fl} {v' : Ev.Env} {h' : Ev.Heap} {D : Ends} (p : Pre ι ι1) (kp : Kp H H1) (q : FinQ K cls H ι fl v' h' D) : FinQ K cls H1 ι1 fl v' h' D := by
  cases fl with
  | nx => exact fun σ' H' z => q σ' H' (z.after p kp)
  | rt d => exact fun y H' z => q y H' (z.after p kp)
  | bk => exact fun σ' H' z => q σ' H' (z.after p kp)
  | ct => exact fun σ' H' z => q σ' H' (z.after p kp)
theorem TQ.sq {v' : Ev.Env} {h' : Ev.Heap} {own : List Nat} {σ σ' : L2.St} {H' : Hp} (q : TQ K cls H ι v' h' own σ σ' H') : SQ K cls H ι v' h' σ' H' := by
  obtain ⟨ι', p, k, R, r, _⟩ := q
  exact ⟨ι', p, k, R, r⟩
end
section
variable (S : Stc) (tab : Ev.Tab) (fuel T0 k : Nat)
structure GS (st : Ev.S) : Prop where
  ss : ∀ (L : Lx) (X : Cx) (x : Stmt), cS L st x = true → XOk S tab fuel T0 k L X → ∀ (σ : L2.St) (H : Hp) (ι : List Addr) (v v' : Ev.Env) (h h' : Ev.Heap) (fl : Ev.Fl) (D : Ends),
    REnv X.K H ι v σ → Rep X.K S.cls H ι h → Ev.evS (cxE tab fuel k) st v h = some (fl, v', h') → FinQ X.K S.cls H ι fl v' h' D → SS X x D σ H
structure GSs (sts : Ev.Ss) : Prop where
  ss : ∀ (L : Lx) (X : Cx) (xs : List Stmt), cSs L sts xs = true → XOk S tab fuel T0 k L X → ∀ (σ : L2.St) (H : Hp) (ι : List Addr) (v v' : Ev.Env) (h h' : Ev.Heap) (fl : Ev.Fl) (D : Ends),
    REnv X.K H ι v σ → Rep X.K S.cls H ι h → Ev.evSs (cxE tab fuel k) sts v h = some (fl, v', h') → FinQ X.K S.cls H ι fl v' h' D → SSs X xs D σ H
end
section
variable {S : Stc} {tab : Ev.Tab} {fuel T0 k : Nat} {a b c e : Ev.E}
theorem gss_nil : GSs S tab fuel T0 k .nil where
  ss := fun L X xs hc ok σ H ι v v' h h' fl D rv R ev fin => by
    simp only [cSs] at hc
    split at hc
    · simp only [Ev.evSs] at ev
      cases ev
      exact sss_nil (fin σ H ⟨ι, .refl _, .refl _, R, rv⟩)
    · cases hc
theorem gss_cons {st : Ev.S} {sts : Ev.Ss} (gs : GS S tab fuel T0 k st) (gr : GSs S tab fuel T0 k sts) : GSs S tab fuel T0 k (.cons st sts) where
  ss := fun L X xs hc ok σ H ι v v' h h' fl D rv R ev fin => by
    simp only [cSs] at hc
    split at hc
    · rw [Bool.and_eq_true] at hc
      simp only [Ev.evSs] at ev
      split at ev
      · rename_i v2 h2 e2
        refine sss_cons (gs.ss L X _ hc.1 ok σ H ι v v2 h h2 .nx _ rv R e2 fun σ1 H1 ⟨ι1, p1, k1, R1, rv1⟩ => ?_)
        exact gr.ss L X _ hc.2 ok σ1 H1 ι1 v2 v' h2 h' fl D rv1 R1 ev (fin.after p1 k1)
      · rename_i hn
        refine sss_cons (gs.ss L X _ hc.1 ok σ H ι v v' h h' fl _ rv R ev ?_)
        cases fl with
        | nx => exact absurd ev (hn _ _)
        | rt d => exact fin
        | bk => exact fin
        | ct => exact fin
    · cases hc
theorem noComp_sw {x : Expr} (env : Env) (n : Nat) (h : noComp x = true) : swapsWith x none n env = pure false := by
  cases x <;> first | rfl | cases h
theorem gs_ex (ge : GE S tab fuel T0 k e) : GS S tab fuel T0 k (.ex e) where
  ss := fun L X x hc ok σ H ι v v' h h' fl D rv R ev fin => by
    simp only [cS] at hc
    split at hc
    · rw [Bool.and_eq_true] at hc
      simp only [Ev.evS] at ev
      split at ev
      · rename_i d h1 e1
        cases ev
        exact ss_expr (noComp_sw _ _ hc.1) ((ge.se L X _ hc.2 ok σ H ι v h h' d rv R e1).imp fun y H1 ⟨ι1, p1, k1, R1, _⟩ => fin σ H1 ⟨ι1, p1, k1, R1, REnv.mono k1 p1 rv⟩)
      · cases ev
    · cases hc
theorem gs_ret (ge : GE S tab fuel T0 k e) : GS S tab fuel T0 k (.ret e) where
  ss := fun L X x hc ok σ H ι v v' h h' fl D rv R ev fin => by
    simp only [cS] at hc
    split at hc
    · simp only [Ev.evS] at ev
      split at ev
      · rename_i d h1 e1
        cases ev
        exact ss_ret ((ge.se L X _ hc ok σ H ι v h h' d rv R e1).imp fun y H1 q => fin y H1 q)
      · cases ev
    · cases hc
theorem gs_retn : GS S tab fuel T0 k .retn where
  ss := fun L X x hc ok σ H ι v v' h h' fl D rv R ev fin => by
    simp only [cS] at hc
    split at hc
    · simp only [Ev.evS] at ev
      cases ev
      exact ss ps_retN (fin .non H (.here R .non))
    · cases hc
theorem gs_pass : GS S tab fuel T0 k .pass where
  ss := fun L X x hc ok σ H ι v v' h h' fl D rv R ev fin => by
    simp only [cS] at hc
    split at hc
    · simp only [Ev.evS] at ev
      cases ev
      exact ss ps_pass (fin σ H ⟨ι, .refl _, .refl _, R, rv⟩)
    · cases hc
theorem gs_brk : GS S tab fuel T0 k .brk where
  ss := fun L X x hc ok σ H ι v v' h h' fl D rv R ev fin => by
    simp only [cS] at hc
    split at hc
    · simp only [Ev.evS] at ev
      cases ev
      exact ss ps_break (fin σ H ⟨ι, .refl _, .refl _, R, rv⟩)
    · cases hc
theorem gs_cont : GS S tab fuel T0 k .cont where
  ss := fun L X x hc ok σ H ι v v' h h' fl D rv R ev fin => by
    simp only [cS] at hc
    split at hc
    · simp only [Ev.evS] at ev
      cases ev
      exact ss ps_continue (fin σ H ⟨ι, .refl _, .refl _, R, rv⟩)
    · cases hc
theorem gs_never : GS S tab fuel T0 k .never where
  ss := fun L X x hc ok σ H ι v v' h h' fl D rv R ev fin => by
    simp only [Ev.evS] at ev
    cases ev
theorem evB_ok {L : Lx} {X : Cx} {x : Expr} {v : Ev.Env} {h h' : Ev.Heap} {t : Bool} {σ : L2.St} {H : Hp} {ι : List Addr} (ge : GE S tab fuel T0 k e) (hc : cE L e x = true) (ok : XOk S tab fuel T0 k L X) (rv : REnv X.K H ι v σ) (R : Rep X.K S.cls H ι h)
    (ev : Ev.evB (cxE tab fuel k) e v h = some (t, h')) : SB X x σ H fun c H' => c = t ∧ HQ X.K S.cls H ι h' H' := by
  unfold Ev.evB at ev
  split at ev
  · rename_i d h1 e1
    obtain ⟨b, e2, e3⟩ := Option.map_eq_some_iff.mp ev
    cases e3
    exact ge.sb L X x hc ok σ H ι v h h' d t rv R e1 e2
  · cases ev
theorem gs_ite {sa sb : Ev.Ss} (gc : GE S tab fuel T0 k c) (ga : GSs S tab fuel T0 k sa) (gb : GSs S tab fuel T0 k sb) : GS S tab fuel T0 k (.ite c sa sb) where
  ss := fun L X x hc ok σ H ι v v' h h' fl D rv R ev fin => by
    simp only [cS] at hc
    split at hc
    · simp only [Bool.and_eq_true] at hc
      obtain ⟨⟨c1, c2⟩, c3⟩ := hc
      simp only [Ev.evS] at ev
      split at ev
      · rename_i h1 e1
        refine ss_if ((evB_ok gc c1 ok rv R e1).imp fun t H1 ⟨et, ι1, p1, k1, R1⟩ => ?_)
        rw [if_pos et]
        exact ga.ss L X _ c2 ok σ H1 ι1 v v' h1 h' fl D (REnv.mono k1 p1 rv) R1 ev (fin.after p1 k1)
      · rename_i h1 e1
        refine ss_if ((evB_ok gc c1 ok rv R e1).imp fun t H1 ⟨et, ι1, p1, k1, R1⟩ => ?_)
        rw [if_neg (by rw [et]; exact Bool.false_ne_true)]
        exact gb.ss L X _ c3 ok σ H1 ι1 v v' h1 h' fl D (REnv.mono k1 p1 rv) R1 ev (fin.after p1 k1)
      · cases ev
    · cases hc
theorem gs_whl {sb : Ev.Ss} (gc : GE S tab fuel T0 k c) (gb : GSs S tab fuel T0 k sb) : GS S tab fuel T0 k (.whl c sb) where
  ss := fun L X x hc ok σ H ι v v' h h' fl D rv R ev fin => by
    simp only [cS] at hc
    split at hc
    · rw [Bool.and_eq_true] at hc
      simp only [Ev.evS] at ev
      refine ss_while ok.xe (fun m σ' H' => ∃ ι' vv hh, Pre ι ι' ∧ Kp H H' ∧ Rep X.K S.cls H' ι' hh ∧ REnv X.K H' ι' vv σ' ∧ Ev.loopW (Ev.evB (cxE tab fuel k) c) (Ev.evSs (cxE tab fuel k) sb) m vv hh = some (fl, v', h')) ⟨ι, v, h, .refl _, .refl _, R, rv, ev⟩ fun m σ1 H1 w => ?_
      obtain ⟨ι1, vv, hh, p1, k1, R1, rv1, ew⟩ := w
      cases m with
      | zero => simp only [Ev.loopW] at ew; cases ew
      | succ m =>
        simp only [Ev.loopW] at ew
        split at ew
        · rename_i h1 e1
          refine (evB_ok gc hc.1 ok rv1 R1 e1).imp fun t H2 ⟨et, ι2, p2, k2, R2⟩ => ?_
          rw [if_pos et]
          refine ⟨_, fun σ' H' z => ⟨m, Nat.lt_succ_self _, z⟩, ?_⟩
          have rv2 := REnv.mono k2 p2 rv1
          split at ew
          · rename_i v2 h2 e2
            exact gb.ss L X _ hc.2 ok σ1 H2 ι2 vv v2 h1 h2 .nx _ rv2 R2 e2 fun σ' H' ⟨ι3, p3, k3, R3, rv3⟩ => ⟨ι3, v2, h2, (p1.trans p2).trans p3, (k1.trans k2).trans k3, R3, rv3, ew⟩
          · rename_i v2 h2 e2
            exact gb.ss L X _ hc.2 ok σ1 H2 ι2 vv v2 h1 h2 .ct _ rv2 R2 e2 fun σ' H' ⟨ι3, p3, k3, R3, rv3⟩ => ⟨ι3, v2, h2, (p1.trans p2).trans p3, (k1.trans k2).trans k3, R3, rv3, ew⟩
          · rename_i v2 h2 e2
            cases ew
            exact gb.ss L X _ hc.2 ok σ1 H2 ι2 vv _ h1 _ .bk _ rv2 R2 e2 fun σ' H' z => fin σ' H' (z.after (p1.trans p2) (k1.trans k2))
          · rename_i d v2 h2 e2
            cases ew
            exact gb.ss L X _ hc.2 ok σ1 H2 ι2 vv _ h1 _ (.rt d) _ rv2 R2 e2 fun y H' z => fin y H' (z.after (p1.trans p2) (k1.trans k2))
          · cases ew
        · rename_i h1 e1
          cases ew
          refine (evB_ok gc hc.1 ok rv1 R1 e1).imp fun t H2 ⟨et, ι2, p2, k2, R2⟩ => ?_
          rw [if_neg (by rw [et]; exact Bool.false_ne_true)]
          exact fin σ1 H2 ⟨ι2, p1.trans p2, k1.trans k2, R2, REnv.mono k2 p2 rv1⟩
        · cases ew
    · cases hc
theorem gs_for {t : Ev.T} {it : Ev.It} {sb : Ev.Ss} (gt : GT S tab fuel T0 k t) (gi : GI S tab fuel T0 k it) (gb : GSs S tab fuel T0 k sb) : GS S tab fuel T0 k (.for_ t it sb) where
  ss := fun L X x hc ok σ H ι v v' h h' fl D rv R ev fin => by
    simp only [cS] at hc
    split at hc
    · rename_i tg iter body pos
      simp only [Bool.and_eq_true] at hc
      obtain ⟨⟨c1, c2⟩, c3⟩ := hc
      simp only [Ev.evS] at ev
      split at ev
      · rename_i src h1 e1
        refine ss_for ok.xe ok.g.calm (fun u => gi.fold L tg iter X.env u c1) ?_
        have hsi := gi.si L X tg iter c1 ok σ H ι v h h1 src rv R e1
        intro pins s tb I
        refine thn (hsi pins s tb I) fun u s1 hu => thn hu fun itv s2 hp => ?_
        obtain ⟨it', fp, tn, J, H1, eit, I2, T, st, f2, ι1, p1, k1, R1, so⟩ := hp
        refine ⟨it', fp, tn, J, H1, eit, I2, T, st, f2, ?_⟩
        generalize hf : (fun x v h => match Ev.asgT (cxE tab fuel k) t x v h with
          | some (v2, h2) => Ev.evSs (cxE tab fuel k) sb v2 h2
          | none => none) = f at ev
        refine ⟨fun i m σ' H' => ∃ ι' vv hh, Pre ι1 ι' ∧ Kp H1 H' ∧ Rep X.K S.cls H' ι' hh ∧ REnv X.K H' ι' vv σ' ∧ Ev.loopF src f m i vv hh = some (fl, v', h'), ⟨_, ι1, v, h1, .refl _, .refl _, R1, REnv.mono k1 p1 rv, ev⟩, fun i m σ2 H2 w => ?_⟩
        obtain ⟨ι2, vv, hh, p2, k2, R2, rv2, ew⟩ := w
        cases m with
        | zero => simp only [Ev.loopF] at ew; cases ew
        | succ m =>
          simp only [Ev.loopF] at ew
          split at ew
          · rename_i en
            cases ew
            exact .inl ⟨so.stop i H2 ι2 _ k2 p2 R2 en, fin σ2 H2 ⟨ι2, p1.trans p2, k1.trans k2, R2, rv2⟩⟩
          · rename_i x en
            obtain ⟨g1, g2⟩ := so.go i H2 ι2 hh x k2 p2 R2 en
            refine .inr ⟨g1, _, fun σ' H' z => ⟨m, Nat.lt_succ_self _, z⟩, fun y Hy hy => ?_⟩
            obtain ⟨k3, R3, r3⟩ := g2 y Hy hy
            have rv3 := REnv.mono k3 (.refl _) rv2
            have pA := p1.trans p2
            have kA := (k1.trans k2).trans k3
            have kB := k2.trans k3
            cases ea : Ev.asgT (cxE tab fuel k) t x vv hh with
            | none =>
              rw [← hf] at ew
              dsimp only at ew
              rw [ea] at ew
              cases ew
            | some r =>
              obtain ⟨v4, h4⟩ := r
              have hfx : f x vv hh = Ev.evSs (cxE tab fuel k) sb v4 h4 := by rw [← hf]; dsimp only; rw [ea]
              rw [hfx] at ew
              refine (gt.sg L X tg c2 ok σ2 Hy ι2 vv v4 hh h4 x y rv3 R3 r3 ea).imp fun σ4 H4 ⟨ι4, p4, k4, R4, rv4, _⟩ => ?_
              split at ew
              · rename_i v5 h5 e5
                exact gb.ss L X _ c3 ok σ4 H4 ι4 v4 v5 h4 h5 .nx _ rv4 R4 e5 fun σ' H' ⟨ι5, p5, k5, R5, rv5⟩ => ⟨ι5, v5, h5, (p2.trans p4).trans p5, (kB.trans k4).trans k5, R5, rv5, ew⟩
              · rename_i v5 h5 e5
                exact gb.ss L X _ c3 ok σ4 H4 ι4 v4 v5 h4 h5 .ct _ rv4 R4 e5 fun σ' H' ⟨ι5, p5, k5, R5, rv5⟩ => ⟨ι5, v5, h5, (p2.trans p4).trans p5, (kB.trans k4).trans k5, R5, rv5, ew⟩
              · rename_i v5 h5 e5
                cases ew
                exact gb.ss L X _ c3 ok σ4 H4 ι4 v4 _ h4 _ .bk _ rv4 R4 e5 fun σ' H' z => fin σ' H' (z.after (pA.trans p4) (kA.trans k4))
              · rename_i d v5 h5 e5
                cases ew
                exact gb.ss L X _ c3 ok σ4 H4 ι4 v4 _ h4 _ (.rt d) _ rv4 R4 e5 fun y H' z => fin y H' (z.after (pA.trans p4) (kA.trans k4))
              · cases ew
          · cases ew
      · cases ev
    · cases hc
end
end EvS
set_option Elab.async false
set_option linter.all false
set_option maxRecDepth 100000
set_option maxHeartbeats 1000000
/-! EvSa: assignments. -/
namespace EvS
open PySem PySem.Spec PyProof.Rows L2
section
variable {S : Stc} {tab : Ev.Tab} {fuel T0 k : Nat} {a b c e : Ev.E} {L : Lx} {X : Cx}
theorem XOk.kindOf (ok : XOk S tab fuel T0 k L X) (id : Str) : X.env.kindOf id = L.kind id := by
  unfold Env.kindOf Lx.kind
  rw [ok.sc]
theorem Inv.block {pins : List (Addr × Obj)} {σ : L2.St} {H : Hp} {s : Shared} (I : Inv X pins σ H s) : X.env.blockKind = .function := by
  unfold Env.blockKind
  rw [I.ok.kind]; rfl
theorem pick_pos {c : Prop} [Decidable c] {a b : Option (List Str)} (h : c) : (pure a : Sem (Option (List Str))) = pure (if c then a else b) := by rw [if_pos h]
theorem pick_neg {c : Prop} [Decidable c] {a b : Option (List Str)} {x : Sem (Option (List Str))} (h : ¬ c) (e : x = pure b) : x = pure (if c then a else b) := by rw [if_neg h]; exact e
theorem swap_ok {tg x : Expr} (hb : X.env.blockKind = .function) (hk : ∀ id, X.env.kindOf id = L.kind id) (h : swapFine tg x = true) : swappedStores [tg] x X.env = pure (swap L tg x) := by
  unfold swap
  split
  · rename_i ts n1 p1 vs n2 p2
    simp only [swapFine, Bool.or_eq_true, Bool.not_eq_true'] at h
    unfold swappedStores swNames
    simp only [hb, hk]
    by_cases c1 : (!(ts.length == 2 || ts.length == 3) || vs.length != ts.length) = true
    · rw [if_pos (by rw [c1]; rfl), if_pos c1]
    · have c1' : (!(ts.length == 2 || ts.length == 3) || vs.length != ts.length) = false := by simpa using c1
      rw [if_neg (by rw [c1']; decide), if_neg c1]
      split
      · rename_i c2; exact pick_pos c2
      · rename_i c2
        refine pick_neg c2 ?_
        split
        · rename_i c3; exact pick_pos c3
        · rename_i c3
          refine pick_neg c3 ?_
          split
          · rfl
          · rename_i c4
            rcases h with h | h
            · rw [h]; rfl
            · exact absurd h c4
  · rename_i hn
    unfold swappedStores
    cases tg with
    | Tuple ts n p =>
      cases x <;> first | rfl | exact absurd rfl (hn _ _ _ _ _ _ rfl)
    | List ts p => cases h
    | _ => rfl
theorem used_ok {tg x : Expr} {n : Nat} (hb : X.env.blockKind = .function) (hk : ∀ id, X.env.kindOf id = L.kind id) (hx : ∀ e g s p, x ≠ .SetComp e g s p) (hy : ∀ e f g s p, x ≠ .DictComp e f g s p) : swapsWithSole [tg] x n X.env = pure (usedComp L tg x) := by
  show swapsWith x (some tg) n X.env = _
  unfold usedComp
  cases x with
  | ListComp el g sc q =>
    cases tg with
    | Name t p =>
      unfold swapsWith
      simp only [hb, hk]
      rfl
    | _ => rfl
  | SetComp el g sc q => exact absurd rfl (hx _ _ _ _)
  | DictComp el f g sc q => exact absurd rfl (hy _ _ _ _ _)
  | _ => cases tg <;> rfl
theorem cE_noSet {x : Expr} (h : cE L e x = true) : (∀ e g s p, x ≠ .SetComp e g s p) ∧ (∀ e f g s p, x ≠ .DictComp e f g s p) := by
  constructor
  · rintro el g s p rfl
    cases e with
    | call f as ks => cases f <;> simp only [cE] at h <;> cases h
    | _ => simp only [cE] at h <;> cases h
  · rintro el f g s p rfl
    cases e with
    | call f as ks => cases f <;> simp only [cE] at h <;> cases h
    | _ => simp only [cE] at h <;> cases h
theorem cE_comp {elt : Expr} {g : List Comprehension} {scope : Scope} {q : Pos} (h : cE L e (.ListComp elt g scope q) = true) : ∃ e' t it cn own tg iter ifs, e = .comp e' t it cn own ∧ g = [⟨tg, iter, ifs, 0⟩] ∧
    blkC L.N L.sc scope (own.filterMap fun i => (L.N[i]?).map fun y => (y, i)) = true ∧ (own.all fun i => (L.N[i]?).isSome) = true ∧ cI L it tg iter = true ∧ (t.slots.all fun i => own.contains i) = true ∧ cT (L.inner scope) t tg = true ∧ cE (L.inner scope) e' elt = true ∧ cC (L.inner scope) cn ifs = true := by
  cases e with
  | comp e' t it cn own =>
    simp only [cE] at h
    split at h
    · rename_i heq
      cases heq
      simp only [Bool.and_eq_true] at h
      obtain ⟨⟨⟨⟨⟨⟨h1, h2⟩, h3⟩, h4⟩, h5⟩, h6⟩, h7⟩ := h
      exact ⟨e', t, it, cn, own, _, _, _, rfl, rfl, h1, h2, h3, h4, h5, h6, h7⟩
    · cases h
  | call f as ks => cases f <;> simp only [cE] at h <;> cases h
  | _ => simp only [cE] at h <;> cases h
theorem g_comp {t : Ev.T} {it : Ev.It} {cn : Ev.Eo} {own : List Nat} (ge : GE S tab fuel T0 k e) (gt : GT S tab fuel T0 k t) (gi : GI S tab fuel T0 k it) (gc : GO S tab fuel T0 k cn) : GE S tab fuel T0 k (.comp e t it cn own) := by
  refine .plain (fun L X x hc ok σ H ι v h h' d rv R ev => ?_) (fun L x hc => ?_) (fun _ _ => by simp only [cAnd]) (fun _ _ => by simp only [cOr])
  · simp only [cE] at hc
    split at hc
    · rename_i elt tg iter ifs scope pos
      simp only [Bool.and_eq_true] at hc
      obtain ⟨⟨⟨⟨⟨⟨h1, h2⟩, h3⟩, h4⟩, h5⟩, h6⟩, h7⟩ := hc
      have := lc_ok ge gt gi gc h3 h4 h5 h6 h7 ok rv R ev
      refine se_lc (own := own.filterMap fun i => (L.N[i]?).map fun y => (y, i)) ok.g.calm ok.ndX (by rw [ok.N, ok.sc]; exact blkOk_by h1) (fun u => gi.fold L tg iter X.env u h3) ?_
      rw [own_names h2]
      exact this
    · cases hc
  · simp only [cE] at hc
    split at hc
    · rfl
    · cases hc
theorem LC.imp {elt tg iter : Expr} {ifs : List Expr} {scope : Scope} {vs : List Nat} {σ : L2.St} {H : Hp} {Q Q' : VK} (h : LC X elt tg iter ifs scope vs σ H Q) (q : ∀ v H', Q v H' → Q' v H') : LC X elt tg iter ifs scope vs σ H Q' := fun pins s tb I =>
  thn (h pins s tb I) fun u s1 hu => thn hu fun itv s2 ⟨it', fp, tn, J, H1, eit, I2, T, st, f2, z⟩ => ⟨it', fp, tn, J, H1, eit, I2, T, st, f2, fun D hD => by
    obtain ⟨W, w0, turn⟩ := z D hD
    refine ⟨W, w0, fun i m H w => ?_⟩
    rcases turn i m H w with ⟨a, b⟩ | r
    · exact .inl ⟨a, q _ _ b⟩
    · exact .inr r⟩
/-- names stored from the right -/
theorem in_order2 {x y : Str} {i j : Nat} {v w : V} {u1 u2 : Value} {σ : L2.St} {H : Hp} {pins : List (Addr × Obj)} {s : Shared} {D : Ends} (hN : X.N.Nodup) (hi : X.N[i]? = some x) (hj : X.N[j]? = some y) (hij : i ≠ j)
    (hx : X.env.scope.names.lookup x = some .local) (hy : X.env.scope.names.lookup y = some .local) (I : Inv X pins σ H s) (r1 : RelV v u1) (r2 : RelV w u2) (q : D.nx ((σ.set i (some v)).set j (some w)) H) :
    wpAny (model X.prog X.w) X.A (assignInOrder ([x, y].reverse.map fun n => bindName X.env n) [u1, u2].reverse) (fun _ => SP X pins D .next) X.xe s := by
  show wpAny _ _ (assignInOrder [fun v => bindName X.env y v, fun v => bindName X.env x v] [u2, u1]) _ _ _
  refine assignInOrder_cons (wpAny_bindName (store_ok I hN hj (.inl hy) r2 (fun s2 I2 => ?_) (.inr hy)))
  refine assignInOrder_cons (wpAny_bindName (store_ok I2 hN hi (.inl hx) r1 (fun s3 I3 => assignInOrder_nil ?_) (.inr hx)))
  rw [List.set_comm _ _ (Ne.symm hij)] at I3
  exact ⟨_, H, I3, q⟩
theorem in_order3 {x y z : Str} {i j l : Nat} {v w t : V} {u1 u2 u3 : Value} {σ : L2.St} {H : Hp} {pins : List (Addr × Obj)} {s : Shared} {D : Ends} (hN : X.N.Nodup) (hi : X.N[i]? = some x) (hj : X.N[j]? = some y) (hl : X.N[l]? = some z) (hij : i ≠ j) (hil : i ≠ l) (hjl : j ≠ l)
    (hx : X.env.scope.names.lookup x = some .local) (hy : X.env.scope.names.lookup y = some .local) (hz : X.env.scope.names.lookup z = some .local) (I : Inv X pins σ H s) (r1 : RelV v u1) (r2 : RelV w u2) (r3 : RelV t u3) (q : D.nx (((σ.set i (some v)).set j (some w)).set l (some t)) H) :
    wpAny (model X.prog X.w) X.A (assignInOrder ([x, y, z].reverse.map fun n => bindName X.env n) [u1, u2, u3].reverse) (fun _ => SP X pins D .next) X.xe s := by
  show wpAny _ _ (assignInOrder [fun v => bindName X.env z v, fun v => bindName X.env y v, fun v => bindName X.env x v] [u3, u2, u1]) _ _ _
  refine assignInOrder_cons (wpAny_bindName (store_ok I hN hl (.inl hz) r3 (fun s2 I2 => ?_) (.inr hz)))
  refine assignInOrder_cons (wpAny_bindName (store_ok I2 hN hj (.inl hy) r2 (fun s3 I3 => ?_) (.inr hy)))
  refine assignInOrder_cons (wpAny_bindName (store_ok I3 hN hi (.inl hx) r1 (fun s4 I4 => assignInOrder_nil ?_) (.inr hx)))
  rw [List.set_comm _ _ (Ne.symm hjl), List.set_comm _ _ (Ne.symm hil), List.set_comm _ _ (Ne.symm hij)] at I4
  exact ⟨_, H, I4, q⟩
theorem fm_congr {α β : Type} {f g : α → Option β} : ∀ {l : List α}, (∀ x ∈ l, f x = g x) → l.filterMap f = l.filterMap g
  | [], _ => rfl
  | x :: l, h => by
    rw [List.filterMap_cons, List.filterMap_cons, h x List.mem_cons_self, fm_congr fun y hy => h y (List.mem_cons_of_mem _ hy)]
/-- what the names are whose stores are exchanged -/
theorem sw_names {ts vs : List Expr} {ns : List Str} (h : swNames L ts vs = some ns) : (ts.length = 2 ∨ ts.length = 3) ∧ (∀ x ∈ ts, ∃ id pos, x = .Name id pos ∧ L.kind id = some .local) ∧ ns = ts.filterMap fun
    | .Name id pos => some id
    | _ => none := by
  unfold swNames at h
  dsimp only at h
  split at h
  · cases h
  · rename_i c1
    split at h
    · cases h
    · split at h
      · cases h
      · rename_i c3
        split at h
        · cases h
        · cases h
          simp at c1 c3
          have key : ∀ x ∈ ts, ∃ id pos, x = .Name id pos ∧ L.kind id = some .local ∧ pos.line = (Option.map (fun x => x.pos.line) ts.head?).getD 0 := fun x hx => by
            have q := c3.1 x hx
            split at q
            · split at q
              · rename_i w; exact ⟨_, _, rfl, w.1, w.2⟩
              · exact absurd rfl q
            · exact absurd rfl q
          refine ⟨?_, fun x hx => let ⟨id, pos, a, b, _⟩ := key x hx; ⟨id, pos, a, b⟩, fm_congr fun x hx => ?_⟩
          · have := c1.1
            omega
          · obtain ⟨id, pos, rfl, w1, w2⟩ := key x hx
            dsimp only
            rw [if_pos]
            rw [w1, w2]
            simp
theorem name_of_T {t : Ev.T} {x : Str} {p : Pos} (h : cT L t (.Name x p) = true) : ∃ i, t = .nm i ∧ L.stores i x = true := by
  cases t <;> simp only [cT] at h <;> first | exact ⟨_, rfl, h⟩ | cases h
abbrev dOf {K : PySem.W.Frag} {H : Hp} {ι : List Addr} {d : Ev.D} {v : V} (_ : RV K H ι d v) : Ev.D := d
theorem gtslen : ∀ {ts : Ev.Ts} {xs : List Expr}, cTs L ts xs = true → xs.length = ts.len
  | .nil, xs, h => by
    simp only [cTs] at h
    split at h
    · rfl
    · cases h
  | .cons t ts, xs, h => by
    simp only [cTs] at h
    split at h
    · rw [Bool.and_eq_true] at h
      simp only [List.length_cons, Ev.Ts.len]
      rw [gtslen h.2]
    · cases h
/-- a tuple's text gives a tuple -/
theorem tup_val {vs : List Expr} {n : Nat} {p : Pos} {v : Ev.Env} {h h1 : Ev.Heap} {d : Ev.D} {Y : Ev.Cx} (hc : cE L e (.Tuple vs n p) = true) (ev : Ev.evE Y e v h = some (d, h1)) : ∃ xs, d = .tup xs := by
  cases e with
  | tup es =>
    simp only [Ev.evE] at ev
    split at ev
    · split at ev
      · cases ev; exact ⟨_, rfl⟩
      · cases ev
    · cases ev
  | call f as ks => cases f <;> simp only [cE] at hc <;> cases hc
  | _ => simp only [cE] at hc <;> cases hc
theorem gs_asg {t : Ev.T} (gt : GT S tab fuel T0 k t) (ge : GE S tab fuel T0 k e) (gcomp : ∀ e' t' it cn own, e = .comp e' t' it cn own → GE S tab fuel T0 k e' ∧ GT S tab fuel T0 k t' ∧ GI S tab fuel T0 k it ∧ GO S tab fuel T0 k cn) : GS S tab fuel T0 k (.asg t e) where
  ss := fun L X x hc ok σ H ι v v' h h' fl D rv R ev fin => by
    simp only [cS] at hc
    split at hc
    · rename_i tg x pos
      simp only [Bool.and_eq_true] at hc
      obtain ⟨⟨⟨⟨c1, c2⟩, c3⟩, c4⟩, c5⟩ := hc
      simp only [Ev.evS] at ev
      split at ev
      · rename_i d h1 e1
        split at ev
        · rename_i v2 h2 e2
          cases ev
          intro pins s tb I
          have hb := Inv.block I
          have hk := ok.kindOf
          obtain ⟨n1, n2⟩ := cE_noSet c4
          have hu := used_ok (L := L) (n := pos.line) (tg := tg) hb hk n1 n2
          have hsw := swap_ok (L := L) (tg := tg) (x := x) hb hk c2
          cases huc : usedComp L tg x with
          | true =>
            rw [huc] at hu
            obtain ⟨y, py, elt, g, scope, q, rfl, rfl, hloc⟩ : ∃ y py elt g scope q, tg = .Name y py ∧ x = .ListComp elt g scope q ∧ L.kind y = some .local := by
              unfold usedComp at huc
              split at huc
              · simp only [Bool.and_eq_true, beq_iff_eq] at huc
                exact ⟨_, _, _, _, _, _, rfl, rfl, huc.1.1⟩
              · cases huc
            obtain ⟨e', t', it, cn, own, tg', iter, ifs, rfl, rfl, d1, d2, d3, d4, d5, d6, d7⟩ := cE_comp c4
            obtain ⟨g1, g2, g3, g4⟩ := gcomp _ _ _ _ _ rfl
            obtain ⟨i, rfl, st⟩ := name_of_T c3
            obtain ⟨s1, _, _⟩ := ok.stores st
            have hl := lc_ok g1 g2 g3 g4 d3 d4 d5 d6 d7 ok rv R e1
            have hly : X.env.scope.names.lookup y = some .local := by rw [ok.sc]; exact hloc
            refine ss_lc (i := i) (own := own.filterMap fun i => (L.N[i]?).map fun y => (y, i)) ok.g.calm ok.ndX s1 hly hu (by rw [ok.N, ok.sc]; exact blkOk_by d1) (fun u => g3.fold L tg' iter X.env u d3) ?_ pins s tb I
            rw [own_names d2]
            refine hl.imp fun y1 H1 ⟨ι1, p1, k1, R1, r1⟩ => ?_
            simp only [Ev.asgT] at e2
            obtain ⟨v3, e3, e4⟩ := Option.map_eq_some_iff.mp e2
            cases e4
            unfold Ev.setLoc at e3
            split at e3
            · cases e3
              exact fin _ H1 ⟨ι1, p1, k1, R1, (REnv.mono k1 p1 rv).set r1⟩
            · cases e3
          | false =>
            rw [huc] at hu
            have hval := ge.se L X x c4 ok σ H ι v h h1 d rv R e1
            cases hs : swap L tg x with
            | none =>
              rw [hs] at hsw
              refine ss_asg hu hsw (hval.imp fun y H1 ⟨ι1, p1, k1, R1, r1⟩ => sall_one c1 ((gt.sg L X tg c3 ok σ H1 ι1 v _ h1 _ d y (REnv.mono k1 p1 rv) R1 r1 e2).imp fun σ2 H2 z => fin σ2 H2 (z.sq.after p1 k1))) pins s tb I
            | some ns =>
              rw [hs] at hsw c5
              dsimp only at c5
              obtain ⟨ts, nt, pt, vs, nv, pv, rfl, rfl, hs⟩ : ∃ ts nt pt vs nv pv, tg = .Tuple ts nt pt ∧ x = .Tuple vs nv pv ∧ swNames L ts vs = some ns := by
                unfold swap at hs
                split at hs
                · exact ⟨_, _, _, _, _, _, rfl, rfl, hs⟩
                · cases hs
              obtain ⟨hlen, hall, hns⟩ := sw_names hs
              refine Assign_Tuple_swapped (names := ns) (thk tb (hval pins s tb I) fun uv s1 t1 ⟨y, H1, I1, ry, ι1, p1, k1, R1, r1⟩ => ?_) hu hsw
              have hh := I1.ok.hd ok.g.calm
              -- the value is a tuple, its items
              obtain ⟨tst, ds, rfl, ei, eT⟩ : ∃ tst ds, t = .tup tst ∧ Ev.items h1 d = some ds ∧ Ev.asgTs (cxE tab fuel k) tst ds v h1 = some (v', h') := by
                split at c5
                · simp only [Ev.asgT] at e2
                  split at e2
                  · exact ⟨_, _, rfl, by assumption, e2⟩
                  · cases e2
                · simp only [Ev.asgT] at e2
                  split at e2
                  · exact ⟨_, _, rfl, by assumption, e2⟩
                  · cases e2
                · cases c5
              obtain ⟨xs, rfl⟩ : ∃ xs, d = .tup xs := tup_val c4 e1
              cases ei
              cases r1 with
              | @tup _ pa vs1 q w =>
                cases ry
                obtain ⟨its, rvl, ptup, _⟩ := I1.tuple q
                simp only [cT] at c3
                rw [Bool.and_eq_true] at c3
                obtain ⟨c31, c3⟩ := c3
                have hts := gtslen c3
                have hln := asgTs_len eT
                have fin' : ∀ σ', REnv X.K H1 ι1 v' σ' → h' = h1 → D.nx σ' H1 := fun σ' rv' eh => by subst eh; exact fin σ' H1 ⟨ι1, p1, k1, R1, rv'⟩
                have rv1 := REnv.mono k1 p1 rv
                split at c5
                · rename_i i j heq
                  cases heq
                  rcases ts with _ | ⟨ta, _ | ⟨tb', _ | ⟨tc, ts⟩⟩⟩ <;> (try (simp [Ev.Ts.len] at hts; done))
                  obtain ⟨x1, px1, rfl, l1⟩ := hall _ (List.mem_cons_self)
                  obtain ⟨x2, px2, rfl, l2⟩ := hall _ (List.mem_cons_of_mem _ (List.mem_cons_self))
                  simp only [cTs, Bool.and_eq_true] at c3
                  obtain ⟨m1, m2, _⟩ := c3
                  obtain ⟨i', ei, st1⟩ := name_of_T m1
                  obtain ⟨j', ej, st2⟩ := name_of_T m2
                  cases ei
                  cases ej
                  obtain ⟨a1, _, _⟩ := ok.stores st1
                  obtain ⟨a2, _, _⟩ := ok.stores st2
                  have b1 : X.env.scope.names.lookup x1 = some .local := by rw [ok.sc]; exact l1
                  have b2 : X.env.scope.names.lookup x2 = some .local := by rw [ok.sc]; exact l2
                  subst hns
                  cases w with
                  | nil => simp [Ev.Ts.len] at hln
                  | cons w1 w =>
                    cases w with
                    | nil => simp [Ev.Ts.len] at hln
                    | cons w2 w =>
                      cases w with
                      | cons => simp [Ev.Ts.len] at hln
                      | nil =>
                        cases rvl with
                        | cons q1 rvl =>
                          cases rvl with
                          | cons q2 rvl =>
                            cases rvl
                            simp only [Ev.asgTs, Ev.asgT, Ev.setLoc] at eT
                            have hne : i ≠ j := by simpa using c5
                            show wpAny _ _ (unpackItems (.ref pa) 2 none) _ _ _
                            refine unpackItems_tuple (items := #[_, _]) hh ptup fun h2' hx => ?_
                            have I2 := I1.kept (h' := h2') (t' := s1.toks) fun b o e => hx b o (Nat.ne_of_lt (Heap.lt_size e)) e
                            refine in_order2 ok.ndX a1 a2 hne b1 b2 I2 q1 q2 ?_
                            have hlt : i < v.length ∧ j < v.length ∧ v' = (v.set i (some (dOf w1))).set j (some (dOf w2)) ∧ h' = h1 := by
                              by_cases z1 : i < v.length
                              · by_cases z2 : j < v.length
                                · simp [z1, z2] at eT
                                  exact ⟨z1, z2, eT.1.symm, eT.2.symm⟩
                                · simp [z1, z2] at eT
                              · simp [z1] at eT
                            obtain ⟨_, _, ev', eh⟩ := hlt
                            exact fin' _ (by rw [ev']; exact (rv1.set w1).set w2) eh
                · rename_i i j l heq
                  cases heq
                  rcases ts with _ | ⟨ta, _ | ⟨tb', _ | ⟨tc, _ | ⟨td, ts⟩⟩⟩⟩ <;> (try (simp [Ev.Ts.len] at hts; done))
                  obtain ⟨x1, px1, rfl, l1⟩ := hall _ (List.mem_cons_self)
                  obtain ⟨x2, px2, rfl, l2⟩ := hall _ (List.mem_cons_of_mem _ (List.mem_cons_self))
                  obtain ⟨x3, px3, rfl, l3⟩ := hall _ (List.mem_cons_of_mem _ (List.mem_cons_of_mem _ (List.mem_cons_self)))
                  simp only [cTs, Bool.and_eq_true] at c3
                  obtain ⟨m1, m2, m3, _⟩ := c3
                  obtain ⟨i', ei, st1⟩ := name_of_T m1
                  obtain ⟨j', ej, st2⟩ := name_of_T m2
                  obtain ⟨l', el, st3⟩ := name_of_T m3
                  cases ei
                  cases ej
                  cases el
                  obtain ⟨a1, _, _⟩ := ok.stores st1
                  obtain ⟨a2, _, _⟩ := ok.stores st2
                  obtain ⟨a3, _, _⟩ := ok.stores st3
                  have b1 : X.env.scope.names.lookup x1 = some .local := by rw [ok.sc]; exact l1
                  have b2 : X.env.scope.names.lookup x2 = some .local := by rw [ok.sc]; exact l2
                  have b3 : X.env.scope.names.lookup x3 = some .local := by rw [ok.sc]; exact l3
                  subst hns
                  rcases w with _ | ⟨w1, _ | ⟨w2, _ | ⟨w3, _ | ⟨_, _⟩⟩⟩⟩ <;> (try (simp [Ev.Ts.len] at hln; done))
                  rcases rvl with _ | ⟨q1, _ | ⟨q2, _ | ⟨q3, _ | ⟨_, _⟩⟩⟩⟩
                  simp only [Ev.asgTs, Ev.asgT, Ev.setLoc] at eT
                  simp only [Bool.and_eq_true, bne_iff_ne, ne_eq] at c5
                  show wpAny _ _ (unpackItems (.ref pa) 3 none) _ _ _
                  refine unpackItems_tuple (items := #[_, _, _]) hh ptup fun h2' hx => ?_
                  have I2 := I1.kept (h' := h2') (t' := s1.toks) fun b o e => hx b o (Nat.ne_of_lt (Heap.lt_size e)) e
                  refine in_order3 ok.ndX a1 a2 a3 c5.1.1 c5.1.2 c5.2 b1 b2 b3 I2 q1 q2 q3 ?_
                  have hlt : v' = ((v.set i (some (dOf w1))).set j (some (dOf w2))).set l (some (dOf w3)) ∧ h' = h1 := by
                    by_cases z1 : i < v.length
                    · by_cases z2 : j < v.length
                      · by_cases z3 : l < v.length
                        · simp [z1, z2, z3] at eT
                          exact ⟨eT.1.symm, eT.2.symm⟩
                        · simp [z1, z2, z3] at eT
                      · simp [z1, z2] at eT
                    · simp [z1] at eT
                  obtain ⟨ev', eh⟩ := hlt
                  exact fin' _ (by rw [ev']; exact ((rv1.set w1).set w2).set w3) eh
                · cases c5
        · cases ev
      · cases ev
    · cases hc
end
end EvS
set_option Elab.async false
set_option linter.all false
set_option maxRecDepth 100000
set_option maxHeartbeats 1000000
/-! EvSb: the rest of the statements; all parts of a text. -/
namespace EvS
open PySem PySem.Spec PyProof.Rows L2
section
variable {S : Stc} {tab : Ev.Tab} {fuel T0 k : Nat} {a b c e : Ev.E} {L : Lx} {X : Cx}
theorem swapped_more {t1 t2 : Expr} {r : List Expr} {x : Expr} {env : Env} : swappedStores (t1 :: t2 :: r) x env = pure none := by
  cases x <;> first | rfl | (cases t1 <;> rfl)
theorem ss_augG {D : Ends} {σ : L2.St} {H : Hp} {e o : Expr} {f : Str} {op : Operator} {p pos : Pos} (h : SE X o σ H fun x H1 => ∃ a C dx fs v, x = .ref a ∧ H1 a = some (.ins C dx fs) ∧ Cls X.K C ∧ NoAttr X.K C f ∧ fs.lookup f = some v ∧
    SE X e σ H1 fun y H2 => SF2 X (inplaceOp op) v y σ H2 fun z H3 => ∃ C' dx' fs', H3 a = some (.ins C' dx' fs') ∧ Cls X.K C' ∧ NoAttr X.K C' f ∧ fs'.length < 1000 ∧ D.nx σ (upd H3 a (.ins C' dx' (putF f z fs')))) : SS X (.AugAssign (.Attribute o f p) op e pos) D σ H := fun pins s tb I => by
  refine wpAny_AugAssign_AttributeAny (thk tb (h pins s tb I) fun ov s1 t1 ⟨x, H1, I1, rx, a, C, dx, fs, v, ex, ea, c, n, l, q⟩ => ?_)
  subst ex
  obtain rfl : ov = Value.ref a := rx
  refine thk t1 (getattr_ok (Q := fun u s2 => Inv X pins σ H1 s2 ∧ RelV v u) I1 ea c n l fun u s2 I2 ru => ⟨I2, ru⟩) fun u s2 t2 ⟨I2, ru⟩ => ?_
  refine thk t2 (q pins s2 t2 I2) fun w s3 t3 ⟨y, H2, I3, ry, q3⟩ => thn (q3 pins s3 u w t3 I3 ru ry) fun w4 s4 ⟨z, H3, I4, rz, C', dx', fs', ea', c', n', l', q4⟩ => ?_
  exact setattr_ok I4 ea' c' n' l' rz fun s5 I5 => ⟨σ, _, I5, q4⟩
theorem gs_asgs {ts : Ev.Ts} (gt : GTs S tab fuel T0 k ts) (ge : GE S tab fuel T0 k e) : GS S tab fuel T0 k (.asgs ts e) where
  ss := fun L X x hc ok σ H ι v v' h h' fl D rv R ev fin => by
    simp only [cS] at hc
    split at hc
    · rename_i t1 t2 r x pos
      simp only [Bool.and_eq_true] at hc
      obtain ⟨⟨⟨c1, c2⟩, c3⟩, c4⟩ := hc
      simp only [Ev.evS] at ev
      split at ev
      · rename_i d h1 e1
        split at ev
        · rename_i v2 h2 e2
          cases ev
          refine ss_asg rfl swapped_more ((ge.se L X x c4 ok σ H ι v h h1 d rv R e1).imp fun y H1 ⟨ι1, p1, k1, R1, r1⟩ => ?_)
          intro pins s u tb I r
          exact thn (gt.al L X _ (by simp) c1 c3 ok σ H1 ι1 v _ h1 _ d y (REnv.mono k1 p1 rv) R1 r1 e2 pins s u tb I r) fun _ s' ⟨σ2, H2, I2, z⟩ => ⟨σ2, H2, I2, fin σ2 H2 (z.sq.after p1 k1)⟩
        · cases ev
      · cases ev
    · cases hc
theorem REnv.get {K : PySem.W.Frag} {H : Hp} {ι : List Addr} {d : Ev.D} : ∀ {v : Ev.Env} {σ : L2.St} {i : Nat}, REnv K H ι v σ → v[i]? = some (some d) → ∃ y, σ[i]? = some (some y) ∧ RV K H ι d y
  | _, _, i, .nil, h => by simp at h
  | _, _, 0, .cons q t, h => by
    simp at h
    subst h
    rename_i o _ _
    cases o with
    | none => exact False.elim q
    | some y => exact ⟨y, by simp, q⟩
  | _, _, i + 1, .cons q t, h => by
    obtain ⟨y, h1, h2⟩ := REnv.get (i := i) t (by simpa using h)
    exact ⟨y, by simpa using h1, h2⟩
theorem gs_aug {t : Ev.T} {o : Ev.BOp} (ge : GE S tab fuel T0 k e) (ga : ∀ a f, t = .fld a f → GE S tab fuel T0 k a) : GS S tab fuel T0 k (.aug t o e) where
  ss := fun L X x hc ok σ H ι v v' h h' fl D rv R ev fin => by
    simp only [cS] at hc
    split at hc
    · rename_i tg op x pos
      simp only [Bool.and_eq_true, beq_iff_eq] at hc
      obtain ⟨⟨⟨c1, c2⟩, c3⟩, c4⟩ := hc
      subst c1
      split at c4
      · rename_i i
        split at c4
        · rename_i y py
          simp only [Bool.and_eq_true, beq_iff_eq] at c4
          obtain ⟨⟨d1, d2⟩, d3⟩ := c4
          simp only [Ev.evS] at ev
          split at ev
          · rename_i x0 e0
            split at ev
            · rename_i y1 h1 e1
              split at ev
              · rename_i z h2 e2
                split at ev
                · rename_i v2 e3
                  cases ev
                  obtain ⟨vx, hx, rx⟩ := rv.get e0
                  have hN : X.N[i]? = some y := by rw [ok.N]; exact d1
                  have hl : X.env.scope.names.lookup y = some .local := by rw [ok.sc]; exact d3
                  refine ss_augN ok.ndX hN hl hx (okName_dbg d2).1 ((ge.se L X x c3 ok σ H ι v h h1 y1 rv R e1).imp fun vy H1 ⟨ι1, p1, k1, R1, r1⟩ => ?_)
                  refine (sf_aug e2 R1 (rx.mono k1 p1) r1).imp fun w H2 ⟨ι2, p2, k2, R2, r2⟩ => ?_
                  unfold Ev.setLoc at e3
                  split at e3
                  · cases e3
                    exact fin _ H2 ⟨ι2, p1.trans p2, k1.trans k2, R2, (REnv.mono (k1.trans k2) (p1.trans p2) rv).set r2⟩
                  · cases e3
                · cases ev
              · cases ev
            · cases ev
          · cases ev
        · cases c4
      · rename_i a f
        split at c4
        · rename_i ob y py
          simp only [Bool.and_eq_true, beq_iff_eq] at c4
          obtain ⟨⟨d1, d2⟩, d3⟩ := c4
          subst d1
          simp only [Ev.evS] at ev
          split at ev
          · rename_i p0 h1 e1
            split at ev
            · rename_i x0 e0
              split at ev
              · rename_i y1 h2 e2
                split at ev
                · rename_i z h3 e3
                  split at ev
                  · rename_i h4 e4
                    cases ev
                    refine ss_augG (((ga a f rfl).se L X ob d3 ok σ H ι v h h1 p0 rv R e1).imp fun vp H1 ⟨ι1, p1, k1, R1, r1⟩ => ?_)
                    obtain ⟨p, i, C, dx, gs, yv, e5, e6, e7, e8, r⟩ := fld_ok e0 R1 r1
                    refine ⟨p, C, dx, gs, yv, e5, e7, ok.gl.cls _ _ e6, ok.gl.noat _ _ _ e6 d2, e8, ?_⟩
                    refine (ge.se L X x c3 ok σ H1 ι1 v h1 h2 y1 (REnv.mono k1 p1 rv) R1 e2).imp fun vy H2 ⟨ι2, p2, k2, R2, r2⟩ => ?_
                    refine (sf_aug e3 R2 (r.mono k2 p2) r2).imp fun w H3 ⟨ι3, p3, k3, R3, r3⟩ => ?_
                    obtain ⟨p', ci, C', dx', gs', e5', e6', e7', e8', ι4, p4, k4, R4⟩ := fput_ok e4 R3 (r1.mono (k2.trans k3) (p2.trans p3)) r3
                    have hp : V.ref p' = V.ref p := e5'.symm.trans e5
                    cases hp
                    exact ⟨C', dx', gs', e7', ok.gl.cls _ _ e6', ok.gl.noat _ _ _ e6' d2, e8', fin σ _ ⟨ι4, ((p1.trans p2).trans p3).trans p4, ((k1.trans k2).trans k3).trans k4, R4, REnv.mono (((k1.trans k2).trans k3).trans k4) (((p1.trans p2).trans p3).trans p4) rv⟩⟩
                  · cases ev
                · cases ev
              · cases ev
            · cases ev
          · cases ev
        · cases c4
      · cases c4
    · cases hc
end
section
variable (S : Stc) (tab : Ev.Tab) (fuel T0 k : Nat)
mutual
theorem allE : ∀ e : Ev.E, GE S tab fuel T0 k e
  | .loc i => g_loc
  | .cst d => g_cst
  | .glb i => g_glb
  | .bin o a b => g_bin (allE a) (allE b)
  | .neg a => g_neg (allE a)
  | .not a => g_not (allE a)
  | .cmp o a b => g_cmp (allE a) (allE b)
  | .chain o p a b c => g_chain (allE a) (allE b) (allE c)
  | .and a b => g_and (allE a) (allE b)
  | .or a b => g_or (allE a) (allE b)
  | .ite c a b => g_ite (allE c) (allE a) (allE b)
  | .idx a i => g_idx (allE a) (allE i)
  | .slc a lo hi => g_slc (allE a) (allO lo) (allO hi)
  | .fld a f => g_fld (allE a)
  | .tup es => g_tup (allEs es)
  | .lst es => g_lst (allEs es)
  | .dct es => g_dct (allEs es)
  | .comp e t it c own => g_comp (allE e) (allT t) (allI it) (allO c)
  | .call f es kws => g_call (allEs es)
  | .meth o m es kws => g_meth (allE o) (allEs es)
  | .repl o c t => g_repl (allE o)
theorem allO : ∀ e : Ev.Eo, GO S tab fuel T0 k e
  | .no => g_no
  | .yes e => g_yes (allE e)
theorem allEs : ∀ e : Ev.Es, GEs S tab fuel T0 k e
  | .nil => g_nil
  | .cons e es => g_cons (allE e) (allEs es)
theorem allI : ∀ e : Ev.It, GI S tab fuel T0 k e
  | .val e => gi_val (allE e)
  | .range es => gi_range (allEs es)
  | .enum e => gi_enum (allE e)
  | .zip a b => gi_zip (allE a) (allE b)
  | .items e => gi_items
theorem allT : ∀ t : Ev.T, GT S tab fuel T0 k t
  | .nm i => gt_nm
  | .tup ts => gt_tup (allTs ts)
  | .stup ts i => gt_stup (allTs ts)
  | .idx a i => gt_idx (allE a) (allE i)
  | .fld a f => gt_fld (allE a)
theorem allTs : ∀ t : Ev.Ts, GTs S tab fuel T0 k t
  | .nil => gts_nil
  | .cons t ts => gts_cons (allT t) (allTs ts)
end
mutual
theorem allS : ∀ st : Ev.S, GS S tab fuel T0 k st
  | .ex e => gs_ex (allE S tab fuel T0 k e)
  | .asg t e => gs_asg (allT S tab fuel T0 k t) (allE S tab fuel T0 k e) fun e' t' it cn own _ => ⟨allE S tab fuel T0 k e', allT S tab fuel T0 k t', allI S tab fuel T0 k it, allO S tab fuel T0 k cn⟩
  | .asgs ts e => gs_asgs (allTs S tab fuel T0 k ts) (allE S tab fuel T0 k e)
  | .aug t o e => gs_aug (allE S tab fuel T0 k e) fun a f _ => allE S tab fuel T0 k a
  | .ret e => gs_ret (allE S tab fuel T0 k e)
  | .retn => gs_retn
  | .pass => gs_pass
  | .brk => gs_brk
  | .cont => gs_cont
  | .ite c a b => gs_ite (allE S tab fuel T0 k c) (allSs a) (allSs b)
  | .whl c b => gs_whl (allE S tab fuel T0 k c) (allSs b)
  | .for_ t it b => gs_for (allT S tab fuel T0 k t) (allI S tab fuel T0 k it) (allSs b)
  | .never => gs_never
theorem allSs : ∀ sts : Ev.Ss, GSs S tab fuel T0 k sts
  | .nil => gss_nil
  | .cons s ss => gss_cons (allS s) (allSs ss)
end
end
end EvS
set_option Elab.async false
set_option linter.all false
set_option maxRecDepth 100000
set_option maxHeartbeats 1000000
/-! EvSc: a def is run as the evaluator runs it. -/
namespace EvS
open PySem PySem.Spec PyProof.Rows L2
/-- what stands of a def, and that its text is the program's -/
def DTx (K : PySem.W.Frag) (S : Stc) (tab : Ev.Tab) (gl : List (Str × Gt)) (flds : List Ev.Nm) (tx : List (Str × Nat)) (i : Nat) : Prop :=
  ∀ (f : Addr) (fd : FuncData) (ps : List Str), S.fad i = some (f, fd, ps) → ∃ (D : Ev.FD) (N : List Str) (name qual : Str) (params : Arguments) (body : List Stmt) (scope : Scope) (dV kV doc pm : Value) (an : Option Addr) (cdv ct oc : Value) (od : Option Addr) (osl : Array (Option Value)),
    tab.defs[i]? = some D ∧ fd = PySem.W.fnOf name qual params body scope dV kV doc pm an cdv ct ∧ K.lookup f = some ⟨oc, od, .func fd, osl⟩ ∧ PySem.W.codeIn K cdv qual = true ∧ FnScope N ps scope ∧ N.length = D.slots ∧ ps.length = D.sig.args.length + D.sig.kwo.length ∧ cSs ⟨N, scope, none, gl, flds, tx⟩ D.body body = true
section
variable {K : PySem.W.Frag} {H : Hp} {ι : List Addr}
theorem Paired.app {α β : Type} {F : α → β → Prop} : ∀ {a : List α} {b : List β} {c : List α} {d : List β}, Paired F a b → Paired F c d → Paired F (a ++ c) (b ++ d)
  | _, _, _, _, .nil, s => s
  | _, _, _, _, .cons r t, s => .cons r (Paired.app t s)
theorem env_start : ∀ {ds : List Ev.D} {vs : List V}, RVs K H ι ds vs → REnv K H ι (ds.map some) (vs.map some)
  | _, _, .nil => .nil
  | _, _, .cons r t => .cons r (env_start t)
theorem env_none : ∀ n : Nat, REnv K H ι (List.replicate n none) (List.replicate n none)
  | 0 => .nil
  | n + 1 => by
    rw [List.replicate_succ, List.replicate_succ]
    exact .cons trivial (env_none n)
end
theorem guards_deeper {A : Around} {env : Env} (h : A.guards = some []) : (A.deeper env).guards = some [] := by
  first | exact h | simp [Around.deeper, h]
section
variable {P : Program} {w : World} {K : PySem.W.Frag} {mg : Str → Option Value} {base : Heap} {S : Stc} {tab : Ev.Tab} {fuel T0 : Nat} {gl : List (Str × Gt)} {flds : List Ev.Nm} {tx : List (Str × Nat)}
/-- EVERY DEF OF THE TEXT -/
theorem all_run (G : GOk K mg S tab T0 gl flds tx) (TX : ∀ i, DTx K S tab gl flds tx i) : ∀ (k i : Nat), FRun P w K mg base S tab fuel T0 k i := by
  intro k
  induction k with
  | zero =>
    intro i f fd ps _ A outer s H ι h args us vs ds d h' _ _ _ _ _ _ _ _ _ ev
    simp only [Ev.callK] at ev
    cases ev
  | succ k ih =>
    intro i f fd ps hf A outer s H ι h args us vs ds d h' hr hg e0 ht hb r hlen rv R ev
    obtain ⟨D, N, name, qual, params, body, scope, dV, kV, doc, pm, an, cdv, ct, oc, od, osl, hD, rfl, lk, hcd, FS, hN, hps, hc⟩ := TX i f fd ps hf
    have hvl : vs.length = ps.length := by rw [r.length, hlen]
    have hdl : ds.length = vs.length := (rv.length).symm
    simp only [Ev.callK] at ev
    rw [hD] at ev
    dsimp only at ev
    unfold Ev.runD at ev
    rw [if_pos (by
      have hpl : ps.length ≤ N.length := by have := congrArg List.length FS.pre; rw [List.length_take] at this; omega
      omega)] at ev
    have KX : K.In s.heap := e0.mod.kin.keeps fun b o e => (e0.bs b o e).1
    have lim : s.heap.NoLimit := e0.mod.nolimit.keeps fun b o e => (e0.bs b o e).1
    have hkind : ∀ y ∈ ps.zip us, scope.names.lookup y.1 = some .local ∨ (scope.names.lookup y.1 = some .cell ∧ ((cellsFrom (s.heap.objs.size + 1) scope.names []).lookup y.1).isSome = true) := fun ⟨n, v⟩ hy => by
      rcases FS.par n (List.of_mem_zip hy).1 with q | q
      · exact .inl q
      · exact .inr ⟨q, PySem.W.cellsFrom_some _ _ _ (.inl q)⟩
    refine codeAny_call_function hr.depth (KX _ _ lk) rfl FS.co FS.gen rfl (PySem.W.codeRec_of KX hcd) (hb _ _ _ _ ?_)
    refine thk (P := fun env s1 => env = newEnv scope s.heap.objs.size mainGlobals (cellsFrom (s.heap.objs.size + 1) scope.names []) (qual ++ Str.ofString ".<locals>.") (some f) cdv none builtinsNs ∧
      InCallC s env.locals (bindL env.kindOf (ps.zip us) fun _ => none) env.cells (bindC env.kindOf (ps.zip us) fun _ => none) s1) (Nat.le_refl s.toks) (wpAny_newFunctionEnv_cells FS.kind hkind fun env he s1 x => ⟨he, x⟩) fun env s1 tk1 ⟨he, x⟩ => ?_
    subst he
    refine ⟨lim.keeps x.toInCall.keep, codeAny_func ?_⟩
    have I0 : Inv (cxOf cx0 P w K mg base N qual scope f cdv A outer s H EvS.e0).nox [] (start N vs) H s1 := (inv_start FS hr.hd e0 hvl r x).wish _
    have hr' : Room (2 * k + 1) (A.deeper (envOfC qual scope s.heap.objs.size f cdv)) := Room.deeper (k := 2 * k + 1) hr _
    have XO : XOk S tab fuel T0 k ⟨N, scope, none, gl, flds, tx⟩ (cxOf cx0 P w K mg base N qual scope f cdv A outer s H EvS.e0).nox := {
      g := ⟨hr', guards_deeper hg, rfl, ht, ih⟩
      gl := G
      sc := rfl
      N := rfl
      nd := FS.nd
      xe := rfl
      fn := fun _ _ => rfl }
    have hst : start N vs = vs.map some ++ List.replicate (D.slots - ds.length) none := by
      unfold L2.start
      rw [hN, hdl]
    have rE : REnv K H ι (ds.map some ++ List.replicate (D.slots - ds.length) none) (start N vs) := by
      rw [hst]
      exact Paired.app (env_start rv) (env_none _)
    have tb : TB (cxOf cx0 P w K mg base N qual scope f cdv A outer s H EvS.e0).nox s1 := tk1
    have main : wpAny (model P w) (A.deeper (envOfC qual scope s.heap.objs.size f cdv)) (execs body (envOfC qual scope s.heap.objs.size f cdv)) (SP (cxOf cx0 P w K mg base N qual scope f cdv A outer s H EvS.e0).nox [] (⟨fun _ H' => PQ K S.cls H ι d h' .non H', PQ K S.cls H ι d h', fun _ _ => False, fun _ _ => False⟩ : Ends)) (fun _ _ => False) s1 := by
      split at ev
      · rename_i v2 h2 e2
        cases ev
        exact (allSs S tab fuel T0 k D.body).ss _ _ body hc XO (start N vs) H ι _ v2 h h' .nx _ rE R e2 (by intro σ' H' ⟨ι', p, kp, R', _⟩; exact ⟨ι', p, kp, R', .non⟩) [] s1 tb I0
      · rename_i d' v2 h2 e2
        cases ev
        exact (allSs S tab fuel T0 k D.body).ss _ _ body hc XO (start N vs) H ι _ v2 h h' (.rt d) _ rE R e2 (by intro y H' q; exact q) [] s1 tb I0
      · cases ev
    refine wpAny_mono main (fun fl s' hs => ?_) fun _ _ z => False.elim z
    have fin : ∀ {σ' : L2.St} {H' : Hp} {v : V} {u : Value}, Inv (cxOf cx0 P w K mg base N qual scope f cdv A outer s H EvS.e0).nox [] σ' H' s' → RelV v u → PQ K S.cls H ι d h' v H' → CE outer P w H s (PQ K S.cls H ι d h') u s' :=
      fun {σ' H' v u} J rv q => ⟨v, H', J.os, J.bare, J.base, J.hok, rv, q⟩
    cases fl with
    | ret u =>
      obtain ⟨v, σ', H', J, rv, q⟩ := hs
      exact fin J rv q
    | next =>
      obtain ⟨σ', H', J, q⟩ := hs
      exact fin (v := V.non) (u := Value.none) J rfl q
    | brk =>
      obtain ⟨_, _, _, q⟩ := hs
      exact False.elim q
    | cont =>
      obtain ⟨_, _, _, q⟩ := hs
      exact False.elim q
end
end EvS
set_option Elab.async false
set_option linter.all false
set_option maxRecDepth 100000
set_option maxHeartbeats 4000000
/-! EvTop: a law holds if the evaluator says so. -/
namespace EvTop
open PySem PySem.W PySem.Calls PyProof.Rows
/-! ### the script is laid -/
theorem lay_ints {R : WRecords} {cl : Str → Option Addr} {P : Params} {ord : List DictEntry → List DictEntry} : ∀ (ns : List Int) (s : Shared) (r : List Value × Shared), layAllW R cl P ord (ns.map WData.int) s = some r → s.toks ≤ r.2.toks
  | [], s, r, e => by
    simp only [List.map_nil, layAllW] at e
    cases e
    exact Nat.le_refl _
  | n :: ns, s, r, e => by
    simp only [List.map_cons, layAllW, layW] at e
    split at e
    · rename_i r2 e2
      cases e
      have := lay_ints ns _ _ e2
      exact Nat.le_trans (Nat.le_succ _) this
    · cases e
theorem lay_script {R : WRecords} {cl : Str → Option Addr} {P : Params} {ord : List DictEntry → List DictEntry} {ns : List Int} {s : Shared} {r : List Value × Shared} (e : layAllW R cl P ord [WData.list (ns.map WData.int)] s = some r) : s.toks ≤ r.2.toks := by
  simp only [layAllW, layW] at e
  cases h : layAllW R cl P ord (ns.map WData.int) s with
  | none => rw [h] at e; cases e
  | some q =>
    rw [h] at e
    cases e
    exact lay_ints ns s q h
/-! ### the whole -/
/-- what the law's call is to show, at the state behind the top and the laid script -/
def CallOk (l : OpenLaw) (q : Program) (loose : List Str) (XP : (Str → Option Value) → Heap → Prop) (YS : World → Shared → Prop) (d : DefRec) : Prop :=
  ∀ (w : World) (s₀ s₁ : Shared) (mg mb : Str → Option Value) (fa a : Addr) (vs : List Value) (ns : List Int), Ground q loose [] XP w s₀ mg mb s₁.heap → YS w s₀ → (∀ b o, s₀.heap.get? b = some o → s₁.heap.get? b = some o) → s₀.toks ≤ s₁.toks →
    s₀.heap.objs.size ≤ a → mg d.name = some (.ref fa) → s₁.heap.get? a = some { cls := .type "list", data := .seq vs.toArray } → IntsAre vs ns → ns.length ≤ 63 → s₁.gens = #[] →
    codeAny (model l.prog w) callerA (.call (.ref fa) ⟨[.ref a], []⟩) (fun r s' => r = .ok (.ret (.bool true)) ∧ OldK s₁.heap s'.heap ∧ s'.os = s₁.os ∧ AllBare s'.gens) s₁
theorem ev_open {l : OpenLaw} {q : Program} {loose : List Str} {Xt : Shared → Bool} {XP : (Str → Option Value) → Heap → Prop} {α : Type} {Yf : Shared → α} {Ya : World → α} {YS : World → Shared → Prop} {d : DefRec} {kwd : List (Str × Expr)} {N : Nat} (hn : l.most = some 63)
    (left : LeftO l.prog q loose Xt Yf Ya N) (hY : ∀ w s, Yf s = Ya w → YS w s) (hX : ∀ s, Xt s = true → XP (s.heap.nsMap mainGlobals) s.heap) (hXk : ∀ g h h', XP g h → (∀ b o, h.get? b = some o → h'.get? b = some o) → XP g h')
    (hdef : defOf q l.row.name = some (d, kwd)) (hp : l.row.prog.theDef l.row.name = some (d.params, d.body, d.scope)) (hk : kwWritten? d.params.kwonlyargs d.params.kw_defaults = some kwd) (hRf : ∀ s, Xt s = true → RecFacts l.row.records s.heap) (hR : l.row.records = [])
    (hwr : (!l.row.writes || l.row.records.isEmpty) = true) (k1 : l.row.wellSaid = true) (ok : (chainsOk q && opensWell l.row.prog && (frees l.row.toRowW && l.row.within.isEmpty)) = true) (hb : l.row.prog.bare) (hw : l.row.toRowW.promised)
    (call : CallOk l q loose XP YS d) : l.row.Holds := by
  refine ⟨k1, hw, ?_⟩
  have tree : ∀ (us : List Value) (w : World) (s : Shared) (g : Str → Option Value) (f : Value) (Q : Fin → Shared → Prop) (E : Value → Shared → Prop), s.heap.Ns mainGlobals g → g l.row.name = some f → wpAny (model l.prog w) callerA (PySem.call f us) (fun v s' => Q (.done (.ret v)) s') E s →
      wpAny (model l.prog w) callerA (do match ← nsGet mainNs l.row.name with
        | some f => do ret (← PySem.call f us)
        | none => unsupported "claim.caller:no-such-global") Q E s := fun us w s g f Q E hg hf h =>
    wpAny_bind (wpAny_nsGet hg (by rw [hf]; exact wpAny_bind (wpAny_mono h (fun _ _ z => wpAny_pure z) fun _ _ z => z)))
  obtain ⟨ok1, ok2⟩ := Bool.and_eq_true_iff.mp ok
  obtain ⟨hch, hop⟩ := Bool.and_eq_true_iff.mp ok1
  obtain ⟨ok3, ok4⟩ := Bool.and_eq_true_iff.mp ok2
  obtain ⟨f1, f2, f3, f4, f5⟩ := frees_parts ok3
  refine ⟨⟨hb, hop, rfl⟩, hw.witness, fun w => ⟨(left.behind hX hch w).1, fun se hse => ?_⟩⟩
  obtain ⟨sb, c1, c2, s, c3, c4, c5, c6, G00, y⟩ := (left.behind (XP := fun g h => XP g h ∧ RecFacts l.row.records h) (fun t ht => ⟨hX t ht, hRf t ht⟩) hch w).2 se hse
  have G0 : Ground q loose [] XP w s (s.heap.nsMap mainGlobals) (s.heap.nsMap builtinsNs) s.heap :=
    ⟨G00.T, G00.B, G00.D, G00.TE, G00.TD, G00.W, G00.X.1, G00.cls, G00.has, G00.apart, G00.once, G00.K⟩
  have RF := G00.X.2
  have c3' := c3
  refine ⟨sb, c1, c2, s, c3, fun n hn => ?_, RF.1, RF.2.1, ?_⟩
  · obtain rfl : n = l.row.name := by split at hn <;> simp_all
    exact pinned_of_view c6 G0 hdef hp hk
  have hgens : s.gens = #[] := Array.eq_empty_of_size_eq_zero (beq_iff_eq.mp c5)
  have G : Ground q loose l.row.records XP w s _ _ s.heap := RF.ground G0
  refine ClaimW.callFrom_of_specG (c := l.row.claim) c4 hgens fun args hpre hlay ord hord => ?_
  obtain ⟨⟨us, s1⟩, hl⟩ := Option.isSome_iff_exists.mp (layAllW_isSome (P := w.params) (ord := ord) G.has args l.row.args s (pre_splitW hpre).1)
  have kp := layAllW_keeps _ _ _ hl
  have rest := layAllW_rest _ _ _ hl
  obtain ⟨as, r1, r2, r3⟩ := reads_layAllW hord _ _ _ hl hlay s1.heap (fun _ _ z => z)
  have La : Laid l.row.records w s s1 args us as := ⟨⟨ord, hord, hl⟩, r1, r2, r3, kp, rest.1.trans hgens, rest.2.2.1⟩
  have G1 := G.keeps hXk kp
  have z1 := ident_freeW f2 f3 f4
  have z2 : l.row.claim.within = [] := List.isEmpty_iff.mp ok4
  obtain ⟨fa, o, pm, cd, doc, dV, kV, h1, h2, h3, h4, h5⟩ := G1.fn hdef
  have hwl : WellAll w.params s1.heap us args := well_layAllW hord args s _ hl _ fun _ _ z => z
  obtain ⟨a, vs, ns, ea, eb, hobj, hints, hlen⟩ := Att.script_of hn hpre hwl
  subst ea eb
  have htk : s.toks ≤ s1.toks := lay_script hl
  have G1' : Ground q loose [] XP w s (s.heap.nsMap mainGlobals) (s.heap.nsMap builtinsNs) s1.heap := by
    have := G1
    rw [hR] at this
    exact this
  have hlow : s.heap.objs.size ≤ a := by
    have hm : a ∈ as := by
      cases r1 with
      | cons q1 q2 => cases q1; simp
    exact (r2.2.2 a hm).1
  have main := call w s s1 _ _ fa a vs ns G1' (hY w s y) kp htk hlow (defOf_name hdef ▸ h1) hobj hints hlen La.gens
  have body : wpAny (model l.prog w) callerA (PySem.call (.ref fa) [.ref a]) (fun v s' => GoodWG l.row.claim (classAt s.heap) (ExcName.means s.heap) [WData.list (ns.map WData.int)] s1 (.ok (.ret v)) s')
      (fun e s' => GoodWG l.row.claim (classAt s.heap) (ExcName.means s.heap) [WData.list (ns.map WData.int)] s1 (.error e) s') s1 := by
    refine enter_call (codeAny_mono main fun r s' hq => ?_)
    obtain ⟨rfl, g1, g2, g3⟩ := hq
    exact ⟨.inl ⟨.bool true, .bool true, [], rfl, fun _ => rfl, .bool true, Att.post_true l _, fun _ => ⟨List.Pairwise.nil, fun _ hm => (nomatch hm)⟩⟩, g1, g2, g3⟩
  refine ⟨_, s1, hl, tree _ w s1 _ (.ref fa) _ _ G1.T.g h1 (wpAny_mono body (fun v s' g => ⟨_, rfl, ?_⟩) fun e s' g => ?_)⟩
  · have z := g.laid (c := l.row.claim) f1 z2 z1 La
    exact ⟨z.1, z.2.1, z.2.2, fun u => ⟨namesKept_of c3' c6 _ kp g.2.1.old, noTable hwr u⟩⟩
  · have z := g.laid (c := l.row.claim) f1 z2 z1 La
    exact ⟨z.1, z.2.1, z.2.2, fun u => ⟨namesKept_of c3' c6 _ kp g.2.1.old, noTable hwr u⟩⟩
end EvTop
set_option Elab.async false
set_option linter.all false
set_option maxRecDepth 100000
set_option maxHeartbeats 4000000
/-! EvHead: a law's text by a table, looked at once. -/
namespace EvS
open PySem PySem.Spec PyProof.Rows L2
/-- a def of the text: where it stands; its text for the evaluator, its slots' names, its parameters -/
structure DefT where
  d : He.DefD
  D : Ev.FD
  N : List Str
  ps : List Str
/-- on: the class stands in the text; else its number is kept free -/
structure ClsT where
  name : Str
  D : Ev.CD
  on : Bool := true
structure Text where
  defs : List DefT
  clss : List ClsT
  glb : List Ev.D
  gl : List (Str × Gt)
  flds : List Ev.Nm
  tx : List (Str × Nat)
  T0 : Nat
def Text.tab (T : Text) : Ev.Tab := ⟨T.defs.map (·.D), T.clss.map (·.D), T.glb⟩
def Text.fns (T : Text) : List He.DefD := T.defs.map (·.d)
/-! ### what is looked at of the text alone -/
def dvOk : Ev.D → He.Dv → Bool
  | .non, .non => true
  | .bl a, .bl b => a == b
  | .int i, .int j => i == j
  | .str s, .str x => (x.cps.toList == s) && decide (s.length ≤ Ev.LINE)
  | _, _ => false
def dvsOk : List Ev.D → List He.Dv → Bool
  | [], [] => true
  | x :: xs, y :: ys => dvOk x y && dvsOk xs ys
  | _, _ => false
def kwsOk : List (Ev.Nm × Ev.D) → List (Str × He.Dv) → Bool
  | [], [] => true
  | x :: xs, y :: ys => (y.1 == nS x.1) && dvOk x.2 y.2 && kwsOk xs ys
  | _, _ => false
def emptyL {α : Type} : List α → Bool
  | [] => true
  | _ => false
def noneO {α : Type} : Option α → Bool
  | none => true
  | _ => false
def plainB (p : Arguments) (A B : List Str) : Bool := emptyL p.posonlyargs && (p.args.map (·.arg) == A) && (p.kwonlyargs.map (·.arg) == B) && noneO p.vararg && noneO p.kwarg
def sigB (t : DefT) : Bool :=
  if t.D.sig.plain then plainB t.d.params t.ps [] && emptyL t.D.sig.kwo && emptyL t.d.dfl && decide t.ps.Nodup && (t.D.sig.args.length == t.ps.length)
  else plainB t.d.params (t.D.sig.args.map nS) (t.D.sig.kwo.map nS) && (t.ps == (t.D.sig.args ++ t.D.sig.kwo).map nS) && decide (t.D.sig.dfl.length ≤ t.D.sig.args.length) && decide (t.D.sig.args ++ t.D.sig.kwo).Nodup && dvsOk t.D.sig.dfl t.d.dfl && kwsOk t.D.sig.kwd t.d.kwd
def scopeB (N P : List Str) (sc : Scope) : Bool :=
  (match sc.kind with | .function => true | _ => false) && !sc.isCoroutine && !sc.isGenerator && decide N.Nodup && (N.take P.length == P) && (P.all fun x => decide (sc.names.lookup x = some .local) || decide (sc.names.lookup x = some .cell)) && (sc.names.all fun y => match y.2 with | .free => false | _ => true)
def defB (T : Text) (t : DefT) : Bool := scopeB t.N t.ps t.d.scope && (t.N.length == t.D.slots) && (t.ps.length == t.D.sig.args.length + t.D.sig.kwo.length) && sigB t && cSs ⟨t.N, t.d.scope, none, T.gl, T.flds, T.tx⟩ t.D.body t.d.body
def Text.ok (T : Text) : Bool := (T.defs.all fun t => defB T t) && decide (0 < T.T0)
theorem dvOk_rv {K : PySem.W.Frag} {d : Ev.D} {v : He.Dv} (h : dvOk d v = true) : ∀ H ι, RV K H ι d (v.v K) := by
  unfold dvOk at h
  split at h
  · exact fun _ _ => .non
  · have := eq_of_beq h; subst this; exact fun _ _ => .bl _
  · have := eq_of_beq h; subst this; exact fun _ _ => .int _
  · rw [Bool.and_eq_true, decide_eq_true_iff, beq_iff_eq] at h
    have e := sT_eq h.1
    subst e
    exact fun _ _ => .str _ h.2
  · cases h
theorem dvsOk_rv {K : PySem.W.Frag} : ∀ {ds : List Ev.D} {vs : List He.Dv}, dvsOk ds vs = true → ∀ H ι, RVs K H ι ds (vs.map (He.Dv.v K))
  | [], [], _ => fun _ _ => .nil
  | [], _ :: _, h => by cases h
  | _ :: _, [], h => by cases h
  | x :: xs, y :: ys, h => by
    unfold dvsOk at h
    rw [Bool.and_eq_true] at h
    exact fun H ι => .cons (dvOk_rv h.1 H ι) (dvsOk_rv h.2 H ι)
theorem emptyL_nil {α : Type} {l : List α} (h : emptyL l = true) : l = [] := by
  cases l with
  | nil => rfl
  | cons => cases h
theorem noneO_none {α : Type} {l : Option α} (h : noneO l = true) : l = none := by
  cases l with
  | none => rfl
  | some => cases h
theorem plain_of {fd : FuncData} {p : Arguments} {A B : List Str} (e : fd.params = p) (h : plainB p A B = true) : Plain fd A B := by
  unfold plainB at h
  simp only [Bool.and_eq_true, beq_iff_eq] at h
  obtain ⟨⟨⟨⟨h1, h2⟩, h3⟩, h4⟩, h5⟩ := h
  subst e
  exact ⟨emptyL_nil h1, h2, h3, noneO_none h4, noneO_none h5⟩
theorem scope_of {N P : List Str} {sc : Scope} (h : scopeB N P sc = true) : FnScope N P sc := by
  unfold scopeB at h
  simp only [Bool.and_eq_true, beq_iff_eq, Bool.not_eq_true', decide_eq_true_eq, List.all_eq_true, Bool.or_eq_true] at h
  obtain ⟨⟨⟨⟨⟨⟨h1, h2⟩, h3⟩, h4⟩, h5⟩, h6⟩, h7⟩ := h
  refine ⟨?_, h2, h3, h4, h5, h6, fun y hy e => ?_⟩
  · split at h1
    · assumption
    · cases h1
  · have := h7 y hy
    rw [e] at this
    cases this
theorem kwd_look {K : PySem.W.Frag} {kws : List (Str × V)} {D : Addr} (h : ∀ q ∈ kws, ∃ u, PySem.W.nsIn K D q.1 = some (some u) ∧ RelV q.2 u) :
    ∃ kwd : List (Str × Value), Paired (fun (p : Str × V) (q : Str × Value) => q.1 = p.1 ∧ RelV p.2 q.2) kws kwd ∧ ∀ (n : Str) (v : Value), kwd.lookup n = some v → PySem.W.nsIn K D n = some (some v) := by
  induction kws with
  | nil => exact ⟨[], .nil, fun n v e => by cases e⟩
  | cons q kws ih =>
    obtain ⟨u, e1, e2⟩ := h q List.mem_cons_self
    obtain ⟨kwd, a, b⟩ := ih fun p hp => h p (List.mem_cons_of_mem _ hp)
    refine ⟨(q.1, u) :: kwd, .cons ⟨rfl, e2⟩ a, fun n v e => ?_⟩
    rw [List.lookup_cons] at e
    by_cases z : n = q.1
    · subst z
      rw [beq_self_eq_true] at e
      cases e
      exact e1
    · rw [beq_eq_false_iff_ne.mpr z] at e
      exact b n v e
theorem kwsOk_rk {K : PySem.W.Frag} : ∀ {ks : List (Ev.Nm × Ev.D)} {vs : List (Str × He.Dv)} {ws : List (Str × Value)}, kwsOk ks vs = true → Paired (fun (p : Str × V) (q : Str × Value) => q.1 = p.1 ∧ RelV p.2 q.2) (vs.map fun q => (q.1, q.2.v K)) ws → ∀ H ι, RKw K H ι ks ws
  | [], [], ws, _, p => by cases p; exact fun _ _ => .nil
  | [], _ :: _, _, h, _ => by cases h
  | _ :: _, [], _, h, _ => by cases h
  | x :: xs, y :: ys, ws, h, p => by
    unfold kwsOk at h
    simp only [Bool.and_eq_true, beq_iff_eq] at h
    obtain ⟨⟨h1, h2⟩, h3⟩ := h
    cases p with
    | cons a b =>
      intro H ι
      exact .cons ⟨a.1.trans h1, _, dvOk_rv h2 H ι, a.2⟩ (kwsOk_rk h3 b H ι)
theorem dvals_len {K : PySem.W.Frag} {d : He.DefD} : (d.dvs K).length = d.dfl.length := by simp [He.DefD.dvs]
/-- what the table says of where defs and classes stand -/
def Text.stc (T : Text) (K : PySem.W.Frag) : Stc where
  cls := fun c => match T.clss[c]? with
    | some t => if t.on then some (He.ga K t.name) else none
    | none => none
  fad := fun i => match T.defs[i]? with
    | some t => (match K.lookup (He.fAd K t.d.at_) with
      | some ⟨_, _, .func fd, _⟩ => some (He.fAd K t.d.at_, fd, t.ps)
      | _ => none)
    | none => none
section
variable {K : PySem.W.Frag} {T : Text}
theorem def_ok (ok : T.ok = true) {i : Nat} {t : DefT} (ht : T.defs[i]? = some t) {fd : FuncData} (F : FunD K t.d.name t.d.qual t.d.params t.d.body t.d.scope (t.d.dvs K) (t.d.kws K) (He.fAd K t.d.at_) fd) :
    DOk K (T.stc K) T.tab i (He.fAd K t.d.at_) fd t.ps t.D := by
  obtain ⟨oc, od, dV, kV, doc, pm, an, cdv, ct, osl, e, lk, hcd, hd, hk⟩ := F.ex
  have hb : defB T t = true := by
    unfold Text.ok at ok
    simp only [Bool.and_eq_true] at ok
    exact List.all_eq_true.mp ok.1 t (List.mem_of_getElem? ht)
  unfold defB at hb
  simp only [Bool.and_eq_true, beq_iff_eq] at hb
  obtain ⟨⟨⟨⟨b1, b2⟩, b3⟩, b4⟩, b5⟩ := hb
  refine ⟨?_, ?_, F.kp, ?_⟩
  · unfold Text.stc
    simp only [ht, lk]
  · unfold Text.tab
    simp [ht]
  · have ep : fd.params = t.d.params := by rw [e]
    unfold sigB at b4
    split at b4
    · rename_i hp
      simp only [Bool.and_eq_true, beq_iff_eq, decide_eq_true_eq] at b4
      obtain ⟨⟨⟨⟨c1, c2⟩, c3⟩, c4⟩, c5⟩ := b4
      refine .inl ⟨hp, plain_of ep c1, emptyL_nil c2, ?_, c4, c5⟩
      have : t.d.dvs K = [] := List.eq_nil_of_length_eq_zero (by rw [dvals_len, emptyL_nil c3]; rfl)
      rcases hd with ⟨_, z⟩ | ⟨z, _⟩
      · rw [e]; exact z
      · exact absurd this z
    · rename_i hp
      simp only [Bool.and_eq_true, beq_iff_eq, decide_eq_true_eq] at b4
      obtain ⟨⟨⟨⟨⟨c1, c2⟩, c3⟩, c4⟩, c5⟩, c6⟩ := b4
      have rd := dvsOk_rv (K := K) c5
      refine .inr ⟨by simpa using hp, plain_of ep c1, c2, c3, c4, ?_, ?_⟩
      · rcases hd with ⟨z, z2⟩ | ⟨z, TT, o, its, n, z2, z3, z4, z5⟩
        · refine ⟨[], fun H ι => ?_, .inl ⟨by rw [e]; exact z2, rfl⟩⟩
          have := rd H ι
          rw [show t.d.dfl.map (He.Dv.v K) = [] from z] at this
          cases hdd : t.D.sig.dfl with
          | nil => exact .nil
          | cons x xs => rw [hdd] at this; cases this
        · exact ⟨its, fun H ι => ru_of (rd H ι) z5, .inr ⟨TT, o, n, by rw [e]; exact z2, z3, z4⟩⟩
      · rcases hk with z | ⟨D, z, z2⟩
        · refine ⟨[], fun H ι => ?_, fun n v h => by cases h⟩
          have z : t.d.kwd = [] := by
            have := congrArg List.length z
            simpa [He.DefD.kws] using this
          rw [z] at c6
          cases hkk : t.D.sig.kwd with
          | nil => exact .nil
          | cons x xs => rw [hkk] at c6; cases c6
        · obtain ⟨kwd, a, b⟩ := kwd_look z2
          exact ⟨kwd, kwsOk_rk c6 a, fun n v h => ⟨D, by rw [e]; exact z, b n v h⟩⟩
theorem def_tx (ok : T.ok = true) (says : ∀ (i : Nat) (t : DefT), T.defs[i]? = some t → ∃ fd, FunD K t.d.name t.d.qual t.d.params t.d.body t.d.scope (t.d.dvs K) (t.d.kws K) (He.fAd K t.d.at_) fd) (i : Nat) : DTx K (T.stc K) T.tab T.gl T.flds T.tx i := by
  intro f fd ps hf
  unfold Text.stc at hf
  dsimp only at hf
  split at hf
  · rename_i t ht
    obtain ⟨fd', F⟩ := says i t ht
    obtain ⟨oc, od, dV, kV, doc, pm, an, cdv, ct, osl, e, lk, hcd, hd, hk⟩ := F.ex
    rw [lk] at hf
    cases hf
    have hb : defB T t = true := by
      unfold Text.ok at ok
      simp only [Bool.and_eq_true] at ok
      exact List.all_eq_true.mp ok.1 t (List.mem_of_getElem? ht)
    unfold defB at hb
    simp only [Bool.and_eq_true, beq_iff_eq] at hb
    obtain ⟨⟨⟨⟨b1, b2⟩, b3⟩, b4⟩, b5⟩ := hb
    exact ⟨t.D, t.N, t.d.name, t.d.qual, t.d.params, t.d.body, t.d.scope, dV, kV, doc, pm, an, cdv, ct, oc, od, osl, by unfold Text.tab; simp [ht], e, lk, hcd, scope_of b1, b2, b3, b5⟩
  · cases hf
end
/-! ### what is looked at of the heap behind the top -/
/-- flat values, and tuples of these -/
def flatV' : Ev.D → Option V
  | .non => some .non
  | .bl b => some (.bl b)
  | .int i => some (.int i)
  | .str s => if s.length ≤ Ev.LINE then some (.str (sT s)) else none
  | _ => none
def flatsV : List Ev.D → Option (List V)
  | [] => some []
  | x :: xs => match flatV' x, flatsV xs with
    | some v, some vs => some (v :: vs)
    | _, _ => none
def valB (K : PySem.W.Frag) (x : Str) (d : Ev.D) : Bool := match PySem.W.nsIn K mainGlobals x with
  | some (some u) => (match d with
    | .tup ds => (match flatsV ds, u with
      | some vs, .ref a => (match K.lookup a with
        | some ⟨.type c, _, .seq its _, _⟩ => decide (c = "tuple") && (decide (its.size ≤ sizeLine) && He.relAll vs its.toList)
        | _ => false)
      | _, _ => false)
    | d => (match flatV' d with
      | some v => He.relB v u
      | none => false))
  | _ => false
def bltB (K : PySem.W.Frag) (x : Str) (v : Value) : Bool := (He.Fa.free x).ok K && decide (bootBuiltins x = some v)
def gtB (T : Text) (K : PySem.W.Frag) (x : Str) : Gt → Bool
  | .val i => match T.glb[i]? with
    | some d => valB K x d
    | none => true
  | .fn (.df i) => (He.Fa.glo x).ok K && (match T.defs[i]? with
    | some t => decide (t.d.at_ = (x, none))
    | none => false)
  | .fn (.cl c) => (He.Fa.glo x).ok K && ((He.Fa.mkr x).ok K && (match T.clss[c]? with
    | some t => t.on && decide (t.name = x) && (match t.D.init with
      | some i => (match T.defs[i]? with
        | some u => decide (u.d.at_ = (x, some ("__init__" : Str)))
        | none => false)
      | none => false)
    | none => false))
  | .fn f => match fnV f with
    | some v => bltB K x v
    | none => true
  | .rng => bltB K x (.type "range")
  | .enm => bltB K x (.type "enumerate")
  | .zp => bltB K x (.type "zip")
  | .isi => bltB K x (.builtin "isinstance")
  | .setf => bltB K x (.type "set")
  | .tbool => bltB K x (.type "bool")
def insB (K : PySem.W.Frag) (C : Addr) : Bool := He.eqO (PySem.W.findIn K (.ref C) "__class__") (some (some (.builtin "object.__class__"))) && (He.eqO (PySem.W.specialIn K (.builtin "object.__class__") "__get__") (some (some (.builtin "getset_descriptor.__get__"))) &&
  (decide (PySem.W.takesIn K (.builtin "object.__class__") = some true) && decide (PySem.W.mroIn K C (.type "object") = some true)))
def kitKB (K : PySem.W.Frag) (C : Addr) : Bool := ((["int", "bool", "str", "tuple", "list"] : List String).all fun T => decide (PySem.W.kitOne K (.ref C) (.type T) = some false)) && ((["NoneType", "bool", "int", "str", "list", "tuple", "dict"] : List String).all fun T => decide (PySem.W.kitOne K (.type T) (.ref C) = some false))
def eqB (T : Text) (K : PySem.W.Frag) (t : ClsT) : Bool := match t.D.eq with
  | none => true
  | some i => (He.Fa.meth t.name "__eq__").ok K && (He.eqO (PySem.W.findIn K (.ref (He.ga K t.name)) "__ne__") (some (some (.builtin "object.__ne__"))) && (match T.defs[i]? with
    | some u => decide (u.d.at_ = (t.name, some ("__eq__" : Str)))
    | none => false))
def clsB (T : Text) (K : PySem.W.Frag) (t : ClsT) : Bool := (He.Fa.cls t.name).ok K && ((T.flds.all fun f => (He.Fa.noat t.name (nS f)).ok K) && ((t.D.meths.all fun m => (He.Fa.meth t.name (nS m.1)).ok K && (match T.defs[m.2]? with
  | some u => decide (u.d.at_ = (t.name, some (nS m.1)))
  | none => false)) && (insB K (He.ga K t.name) && (kitKB K (He.ga K t.name) && eqB T K t))))
/-- two classes beside one another -/
def pairB (T : Text) (K : PySem.W.Frag) (i j : Nat) : Bool := match T.clss[i]?, T.clss[j]? with
  | some a, some b => !a.on || !b.on || decide (PySem.W.kitOne K (.ref (He.ga K a.name)) (.ref (He.ga K b.name)) = some (i == j)) && (i == j || decide (PySem.W.subIn K (.ref (He.ga K b.name)) (.ref (He.ga K a.name)) = some false))
  | _, _ => true
def pairsB (T : Text) (K : PySem.W.Frag) : Bool := (List.range T.clss.length).all fun i => (List.range T.clss.length).all fun j => pairB T K i j
def txB (T : Text) (K : PySem.W.Frag) (p : Str × Nat) : Bool := match PySem.W.nsIn K mainGlobals p.1 with
  | some (some (.str y t)) => decide (y = ⟨#[p.2]⟩) && (decide (0 < t) && decide (t < T.T0))
  | _ => false
def Text.facts (T : Text) (K : PySem.W.Frag) : Bool := (T.gl.all fun p => gtB T K p.1 p.2) && ((T.clss.all fun t => !t.on || clsB T K t) && ((T.tx.all fun p => txB T K p) && pairsB T K))
theorem lookup_mem {α : Type} {x : Str} {v : α} : ∀ {l : List (Str × α)}, l.lookup x = some v → (x, v) ∈ l
  | (k, w) :: l, h => by
    rw [List.lookup_cons] at h
    by_cases e : x = k
    · subst e
      rw [beq_self_eq_true] at h
      cases h
      exact List.mem_cons_self
    · rw [beq_eq_false_iff_ne.mpr e] at h
      exact List.mem_cons_of_mem _ (lookup_mem h)
theorem flatV_rv {K : PySem.W.Frag} {d : Ev.D} {v : V} (h : flatV' d = some v) : ∀ H ι, RV K H ι d v := by
  unfold flatV' at h
  split at h
  · cases h; exact fun _ _ => .non
  · cases h; exact fun _ _ => .bl _
  · cases h; exact fun _ _ => .int _
  · split at h
    · cases h; exact fun _ _ => .str _ (by assumption)
    · cases h
  · cases h
theorem flatsV_rv {K : PySem.W.Frag} : ∀ {ds : List Ev.D} {vs : List V}, flatsV ds = some vs → ∀ H ι, RVs K H ι ds vs
  | [], vs, h => by simp only [flatsV] at h; cases h; exact fun _ _ => .nil
  | x :: xs, vs, h => by
    simp only [flatsV] at h
    split at h
    · rename_i e1 e2
      cases h
      exact fun H ι => .cons (flatV_rv e1 H ι) (flatsV_rv e2 H ι)
    · cases h
section
variable {K : PySem.W.Frag} {T : Text} {h : Heap} {mg : Str → Option Value}
theorem val_ok (X : K.In h) (G : h.Ns mainGlobals mg) {x : Str} {d : Ev.D} (c : valB K x d = true) : ∃ (v : V) (u : Value), mg x = some u ∧ RelV v u ∧ ∀ H ι, RV K H ι d v := by
  unfold valB at c
  split at c
  · rename_i u hu
    have hm := PySem.W.mg_of X G hu
    split at c
    · rename_i ds
      split at c
      · rename_i vs a hv
        split at c
        · rename_i lk
          rw [Bool.and_eq_true, Bool.and_eq_true, decide_eq_true_iff, decide_eq_true_iff] at c
          obtain ⟨c1, c2, c3⟩ := c
          exact ⟨.ref a, .ref a, hm, rfl, fun H ι => .tup (.inr ⟨_, _, _, lk, congrArg Value.type c1, rfl, c2, He.relAll_ok c3⟩) (flatsV_rv hv H ι)⟩
        · cases c
      · cases c
    · split at c
      · rename_i v hv
        exact ⟨v, u, hm, He.relB_ok c, flatV_rv hv⟩
      · cases c
  · cases c
theorem blt_ok (X : K.In h) (G : h.Ns mainGlobals mg) {x : Str} {v : Value} (c : bltB K x v = true) : mg x = none ∧ bootBuiltins x = some v := by
  unfold bltB at c
  rw [Bool.and_eq_true, decide_eq_true_iff] at c
  exact ⟨He.free_ok X G c.1, c.2⟩
/-- the table is true of the heap -/
theorem text_ok (ok : T.ok = true) (X : K.In h) (G : h.Ns mainGlobals mg) (fx : T.facts K = true) (says : ∀ (i : Nat) (t : DefT), T.defs[i]? = some t → ∃ fd, FunD K t.d.name t.d.qual t.d.params t.d.body t.d.scope (t.d.dvs K) (t.d.kws K) (He.fAd K t.d.at_) fd) :
    GOk K mg (T.stc K) T.tab T.T0 T.gl T.flds T.tx := by
  unfold Text.facts at fx
  rw [Bool.and_eq_true, Bool.and_eq_true, Bool.and_eq_true] at fx
  obtain ⟨f1, f2, f3, f4⟩ := fx
  have ok' := ok
  unfold Text.ok at ok'
  simp only [Bool.and_eq_true, decide_eq_true_eq] at ok'
  have gt : ∀ (x : Str) (g : Gt), T.gl.lookup x = some g → gtB T K x g = true := fun x g e => List.all_eq_true.mp f1 _ (lookup_mem e)
  have dok : ∀ (i : Nat) (t : DefT), T.defs[i]? = some t → ∃ fd, DOk K (T.stc K) T.tab i (He.fAd K t.d.at_) fd t.ps t.D := fun i t ht => by
    obtain ⟨fd, F⟩ := says i t ht
    exact ⟨fd, def_ok ok ht F⟩
  have cls : ∀ c C, (T.stc K).cls c = some C → ∃ t, T.clss[c]? = some t ∧ C = He.ga K t.name ∧ clsB T K t = true ∧ t.on = true := fun c C e => by
    unfold Text.stc at e
    dsimp only at e
    split at e
    · rename_i t ht
      split at e
      · rename_i on
        cases e
        have := List.all_eq_true.mp f2 _ (List.mem_of_getElem? ht)
        rw [on] at this
        exact ⟨t, ht, rfl, by simpa using this, on⟩
      · cases e
    · cases e
  have pairs : ∀ c C d D, (T.stc K).cls c = some C → (T.stc K).cls d = some D → PySem.W.kitOne K (.ref C) (.ref D) = some (c == d) ∧ (c ≠ d → PySem.W.subIn K (.ref D) (.ref C) = some false) := fun c C d D e1 e2 => by
    obtain ⟨t, ht, rfl, _, on1⟩ := cls c C e1
    obtain ⟨u, hu, rfl, _, on2⟩ := cls d D e2
    have h1 := List.all_eq_true.mp f4 c (List.mem_range.mpr (List.getElem?_eq_some_iff.mp ht).1)
    have h2 := List.all_eq_true.mp h1 d (List.mem_range.mpr (List.getElem?_eq_some_iff.mp hu).1)
    unfold pairB at h2
    rw [ht, hu] at h2
    dsimp only at h2
    rw [on1, on2, Bool.not_true, Bool.false_or, Bool.false_or, Bool.and_eq_true, decide_eq_true_iff, Bool.or_eq_true, decide_eq_true_iff] at h2
    exact ⟨h2.1, fun n => h2.2.resolve_left fun z => n (eq_of_beq z)⟩
  have clsP : ∀ c C, (T.stc K).cls c = some C → ∃ t, T.clss[c]? = some t ∧ C = He.ga K t.name ∧ insB K C = true ∧ kitKB K C = true ∧ eqB T K t = true := fun c C e => by
    obtain ⟨t, ht, rfl, c1, _⟩ := cls c C e
    unfold clsB at c1
    simp only [Bool.and_eq_true] at c1
    exact ⟨t, ht, rfl, c1.2.2.2.1, c1.2.2.2.2.1, c1.2.2.2.2.2⟩
  refine ⟨fun x i d e hd => ?_, fun x i e => ?_, fun x c e => ?_, fun x f v e hf => ?_, fun x e => ?_, fun x e => ?_, fun x e => ?_, fun x e => ?_, fun x e => ?_, fun x e => ?_, fun c C e => ?_, fun c C e => ?_, fun c C e => ?_, fun c C f e hf => ?_, fun c C cd m i e hcd hm => ?_, fun c C cd i e hcd hq => ?_, fun c C d D e1 e2 n => (pairs c C d D e1 e2).2 n, ok'.2, fun x c e => ?_⟩
  · have := gt x _ e
    unfold gtB at this
    dsimp only at this
    have hd : T.glb[i]? = some d := hd
    rw [hd] at this
    exact val_ok X G this
  · have := gt x _ e
    unfold gtB at this
    dsimp only at this
    rw [Bool.and_eq_true] at this
    obtain ⟨a, b⟩ := this
    split at b
    · rename_i t ht
      have b := of_decide_eq_true b
      obtain ⟨fd, k⟩ := dok i t ht
      have ea : He.fAd K t.d.at_ = He.ga K x := by rw [b]; rfl
      rw [ea] at k
      exact ⟨_, fd, t.ps, t.D, He.glo_ok X G a, k⟩
    · cases b
  · have := gt x _ e
    unfold gtB at this
    dsimp only at this
    rw [Bool.and_eq_true, Bool.and_eq_true] at this
    obtain ⟨a, m, b⟩ := this
    split at b
    · rename_i t ht
      rw [Bool.and_eq_true, Bool.and_eq_true, decide_eq_true_iff] at b
      obtain ⟨⟨on, b1⟩, b⟩ := b
      split at b
      · rename_i i hi
        split at b
        · rename_i u hu
          have b := of_decide_eq_true b
          obtain ⟨fd, k⟩ := dok i u hu
          have ea : He.fAd K u.d.at_ = He.ma K (He.ga K x) "__init__" := by rw [b]; rfl
          rw [ea] at k
          refine ⟨He.ga K x, _, fd, u.ps, u.D, t.D, i, He.glo_ok X G a, ?_, He.mkr_ok m, ?_, hi, k⟩
          · unfold Text.stc
            simp [ht, b1, on]
          · unfold Text.tab
            simp [ht]
        · cases b
      · cases b
    · cases b
  · have := gt x _ e
    have h2 : gtB T K x (.fn f) = bltB K x v := by
      cases f <;> first | (cases hf; done) | (unfold gtB; simp only [hf])
    rw [h2] at this
    exact blt_ok X G this
  · exact blt_ok X G (gt x _ e)
  · exact blt_ok X G (gt x _ e)
  · exact blt_ok X G (gt x _ e)
  · exact blt_ok X G (gt x _ e)
  · exact blt_ok X G (gt x _ e)
  · exact blt_ok X G (gt x _ e)
  · obtain ⟨t, ht, rfl, c1, _⟩ := cls c C e
    unfold clsB at c1
    rw [Bool.and_eq_true] at c1
    exact He.cls_ok c1.1
  · obtain ⟨t, ht, _, i1, _, _⟩ := clsP c C e
    unfold insB at i1
    rw [Bool.and_eq_true, Bool.and_eq_true, Bool.and_eq_true, decide_eq_true_iff, decide_eq_true_iff] at i1
    exact ⟨He.eqO_ok i1.1, He.eqO_ok i1.2.1, i1.2.2.1, i1.2.2.2⟩
  · obtain ⟨t, ht, _, _, k1, _⟩ := clsP c C e
    unfold kitKB at k1
    rw [Bool.and_eq_true] at k1
    exact ⟨⟨fun U hU => of_decide_eq_true (List.all_eq_true.mp k1.1 U hU), fun U hU => of_decide_eq_true (List.all_eq_true.mp k1.2 U hU)⟩, fun d D e2 => (pairs c C d D e e2).1⟩
  · obtain ⟨t, ht, rfl, c1, _⟩ := cls c C e
    unfold clsB at c1
    rw [Bool.and_eq_true, Bool.and_eq_true] at c1
    exact He.noat_ok (List.all_eq_true.mp c1.2.1 f (by simpa using hf))
  · obtain ⟨t, ht, rfl, c1, _⟩ := cls c C e
    unfold clsB at c1
    rw [Bool.and_eq_true, Bool.and_eq_true] at c1
    have hcd2 : cd = t.D := by
      unfold Text.tab at hcd
      simp [ht] at hcd
      exact hcd.symm
    subst hcd2
    have mm : ∀ {l : List (Ev.Nm × Nat)}, Ev.mlook l m = some i → (m, i) ∈ l := fun {l} hl => by
      induction l with
      | nil => cases hl
      | cons p l ih =>
        obtain ⟨g, j⟩ := p
        unfold Ev.mlook at hl
        split at hl
        · rename_i z
          cases hl
          subst z
          exact List.mem_cons_self
        · exact List.mem_cons_of_mem _ (ih hl)
    rw [Bool.and_eq_true] at c1
    have c2 := List.all_eq_true.mp c1.2.2.1 _ (mm hm)
    rw [Bool.and_eq_true] at c2
    obtain ⟨a, b⟩ := c2
    split at b
    · rename_i u hu
      have b := of_decide_eq_true b
      obtain ⟨fd, k⟩ := dok i u hu
      have ea : He.fAd K u.d.at_ = He.ma K (He.ga K t.name) (nS m) := by rw [b]; rfl
      rw [ea] at k
      exact ⟨_, fd, u.ps, u.D, He.meth_ok a, k⟩
    · cases b
  · obtain ⟨t, ht, rfl, _, _, q1⟩ := clsP c C e
    have hcd2 : cd = t.D := by
      unfold Text.tab at hcd
      simp [ht] at hcd
      exact hcd.symm
    subst hcd2
    unfold eqB at q1
    rw [hq] at q1
    dsimp only at q1
    rw [Bool.and_eq_true, Bool.and_eq_true] at q1
    obtain ⟨a, n, b⟩ := q1
    split at b
    · rename_i u hu
      have b := of_decide_eq_true b
      obtain ⟨fd, k⟩ := dok i u hu
      have ea : He.fAd K u.d.at_ = He.ma K (He.ga K t.name) "__eq__" := by rw [b]; rfl
      rw [ea] at k
      exact ⟨_, fd, u.ps, u.D, He.meth_ok a, k, He.eqO_ok n⟩
    · cases b
  · have := List.all_eq_true.mp f3 _ (lookup_mem e)
    unfold txB at this
    dsimp only at this
    split at this
    · rename_i y t hu
      rw [Bool.and_eq_true, Bool.and_eq_true, decide_eq_true_iff, decide_eq_true_iff, decide_eq_true_iff] at this
      obtain ⟨a, b, c⟩ := this
      subst a
      exact ⟨t, PySem.W.mg_of X G hu, b, c⟩
    · cases this
end
end EvS
set_option Elab.async false
set_option linter.all false
set_option maxRecDepth 100000
set_option maxHeartbeats 4000000
/-! EvLaw: a law from its table, the run of the top, and the evaluator's word. -/
namespace EvS
open PySem PySem.Spec PyProof.Rows L2
/-! ### a text's defs -/
def tArgs : Stmt → Arguments
  | .FunctionDef (args := x) .. => x
  | _ => ⟨[], [], none, [], [], none, []⟩
def tBody : Stmt → List Stmt
  | .FunctionDef (body := x) .. => x
  | _ => []
def tScope : Stmt → Scope
  | .FunctionDef (scope := x) .. => x
  | _ => ⟨.module, [], false, false, []⟩
/-- a class's j-th statement -/
def methS (s : Stmt) (j : Nat) : Stmt := match s with
  | .ClassDef (body := x) .. => x.getD j (.Pass ⟨0, 0, 0, 0⟩)
  | _ => .Pass ⟨0, 0, 0, 0⟩
/-! ### what is seen behind the top -/
abbrev Seen : Type := Bool × (Bool × He.AlD)
def seenG (n : Nat) (T : Text) (toks : Nat) (g : Addr → Option Obj) : Seen := (T.facts (He.frG g (He.asD g n)), decide (T.T0 ≤ toks), He.obsDG n [] T.fns g)
def hookT (n : Nat) (T : Text) : PySem.W.Hook where
  α := Seen
  obs := fun s => seenG n T s.toks s.heap.get?
  val := fun _ => (true, true, He.valD T.fns)
  says := fun _ _ => True
  of := fun _ _ _ => trivial
  keeps := fun _ _ _ _ _ => trivial
def obT (n : Nat) (T : Text) (s : PySem.W.SharedT) : Seen := seenG n T s.toks (HandSHeadRun.getT s)
theorem obT_eq (n : Nat) (T : Text) (s : PySem.W.SharedT) : obT n T s = (hookT n T).obs s.abs := by
  have e : HandSHeadRun.getT s = s.abs.heap.get? := funext (HandSHeadRun.getT_eq s)
  unfold obT
  rw [e]
  rfl
def Says (T : Text) (s : Shared) : Prop := ∃ K : PySem.W.Frag, K.In s.heap ∧ T.facts K = true ∧ He.SaysD [] T.fns K ∧ T.T0 ≤ s.toks
theorem says_of {n : Nat} {T : Text} {w : World} {s : Shared} (h : (hookT n T).obs s = (hookT n T).val w) : Says T s := by
  have h1 : T.facts (He.frG s.heap.get? (He.asD s.heap.get? n)) = true := congrArg (fun z : Seen => z.1) h
  have h2 : decide (T.T0 ≤ s.toks) = true := congrArg (fun z : Seen => z.2.1) h
  have h3 : He.obsDG n [] T.fns s.heap.get? = He.valD T.fns := congrArg (fun z : Seen => z.2.2) h
  exact ⟨_, He.frG_in, h1, h3, of_decide_eq_true h2⟩
theorem rvs_ints {K : PySem.W.Frag} {H : Hp} {ι : List Addr} : ∀ ns : List Int, RVs K H ι (ns.map .int) (ns.map V.int)
  | [] => .nil
  | n :: ns => .cons (.int n) (rvs_ints ns)
/-- the law's call -/
theorem call_of {l : PySem.W.OpenLaw} {q : Program} {loose : List Str} {XP : (Str → Option Value) → Heap → Prop} {d : DefRec} {T : Text} {i k fuel : Nat} {t : DefT} {x : Str} (ok : T.ok = true) (ht : T.defs[i]? = some t) (hat : T.gl.lookup d.name = some (.fn (.df i))) (hps : t.ps = [x]) (hsp : t.D.sig.plain = true) (hr : Room (2 * k) callerA)
    (ev : ∀ ns : List Int, ns.length ≤ 63 → ∃ h', Ev.callK T.tab fuel showsT k i [.ref 0] ⟨[.fro (ns.map .int)]⟩ = some (.bl true, h')) :
    EvTop.CallOk l q loose XP (fun _ s => Says T s) d := by
  intro w s₀ s₁ mg mb fa a vs ns G ⟨K, KX, fx, sd, ht0⟩ kp htk hlow hmg hobj hints hlen hg
  have says : ∀ (i : Nat) (t : DefT), T.defs[i]? = some t → ∃ fd, FunD K t.d.name t.d.qual t.d.params t.d.body t.d.scope (t.d.dvs K) (t.d.kws K) (He.fAd K t.d.at_) fd := fun i t ht => He.SaysD.def_ sd i (by unfold Text.fns; simp [ht])
  have KX1 : K.In s₁.heap := fun b o e => kp _ _ (KX b o e)
  have gok := text_ok ok KX1 G.T.g fx says
  have txt := def_tx ok says
  obtain ⟨fd, F⟩ := says i t ht
  have dk := def_ok ok ht F
  obtain ⟨fb, fdb, psb, Db, hmb, dkb⟩ := gok.df _ _ hat
  rw [hmg] at hmb
  cases hmb
  have ea : He.fAd K t.d.at_ = fa := by
    have := dkb.at_
    rw [dk.at_] at this
    exact congrArg Prod.fst (Option.some.inj this)
  rw [ea] at dk F
  have rv := vals_ints hints
  have lenV := hints.length
  have lkA : K.lookup a = none := by
    cases e : K.lookup a with
    | none => rfl
    | some o => exact absurd (Heap.lt_size (KX a o e)) (Nat.not_lt.mpr hlow)
  generalize hH : (fun b : Addr => if b = a then some (HO.frz { cls := .type "list", data := .seq vs.toArray } (.lst (ns.map V.int))) else none : Hp) = H
  have hHa : H a = some (.frz { cls := .type "list", data := .seq vs.toArray } (.lst (ns.map V.int))) := by rw [← hH]; exact if_pos rfl
  have hHn : ∀ b, b ≠ a → H b = none := fun b z => by rw [← hH]; exact if_neg z
  have hA : ∀ b, H b ≠ none → b = a := fun b z => by
    by_cases e : b = a
    · exact e
    · exact absurd (hHn b e) z
  have hok : HOk l.prog w H s₁.heap := fun b u z => by
    have e := hA b (by rw [z]; simp)
    subst e
    rw [hHa] at z
    cases z
    exact ⟨hobj, by rw [List.length_map]; have : (63 : Nat) ≤ sizeLine := by decide
                    omega, vs, _, rv, hobj⟩
  have base_of : ∀ {b : Addr} {o : Obj}, s₁.heap.get? b = some o → H b = none → (hidT s₁.heap H).get? b = some o := fun e n => hidT_get e n
  have noA : ∀ {b : Addr} {o : Obj} {es : Array DictEntry} {ep : Nat}, s₁.heap.get? b = some o → o.data = .dict es ep → H b = none := fun {b o es ep} e dd => by
    by_cases z : b = a
    · subst z
      rw [hobj] at e; cases e
      cases dd
    · exact hHn b z
  have nsK : ∀ {b : Addr} {m : Str → Option Value}, s₁.heap.Ns b m → (hidT s₁.heap H).Ns b m := fun {b m} ⟨o, es, ep, e, dd, r⟩ => ⟨o, es, ep, base_of e (noA e dd), dd, r⟩
  have hKb : K.In (hidT s₁.heap H) := fun b o e => base_of (KX1 b o e) (by
    by_cases z : b = a
    · subst z; rw [lkA] at e; cases e
    · exact hHn b z)
  have hM : Mod K mg (hidT s₁.heap H) := ⟨hKb, nsK G.T.g, ⟨mb, nsK G.T.b, G.T.builtins⟩, let ⟨mc, h1, h2⟩ := G.T.nolimit; ⟨mc, nsK h1, h2⟩⟩
  have e0' : Env0 l.prog w K mg (hidT s₁.heap H) callerA [] s₁ H := ⟨rfl, hM, fun b o e => of_hidT e, Nat.le_of_eq (hidT_size _ _), trivial, fun b hb => absurd (show b ∈ ([] : List Addr) from hb) (by simp), hok, .of_eq hg⟩
  have R : Rep K (T.stc K).cls H [a] ⟨[.fro (ns.map .int)]⟩ := by
    refine ⟨rfl, by simp, fun j b c e1 e2 => ?_⟩
    have hj : j = 0 := by
      have := (List.getElem?_eq_some_iff.mp e1).1
      simpa using this
    subst hj
    simp at e1
    subst e1
    have e2 : some (Ev.Cell.fro (ns.map .int)) = some c := e2
    cases e2
    exact ⟨_, _, hHa, rvs_ints ns⟩
  obtain ⟨h', hev⟩ := ev ns hlen
  obtain ⟨pl, _⟩ : ∃ g : SgP fd t.ps t.D.sig, True := by
    rcases dk.sg with g | g
    · exact ⟨g, trivial⟩
    · have := g.no; rw [hsp] at this; cases this
  have bind : BindsTo s₁ fd ⟨[.ref a], []⟩ (t.ps.zip [.ref a]) := bindN_ok pl.pl pl.dn pl.nd (by rw [hps]; rfl)
  have main := all_run (P := l.prog) (w := w) (fuel := fuel) (base := hidT s₁.heap H) gok txt k i fa fd t.ps dk.at_ callerA [] s₁ H [a] _ ⟨[.ref a], []⟩ [.ref a] [.ref a] [.ref 0] (.bl true) h' hr rfl e0' (Nat.le_trans ht0 htk) bind (.cons rfl .nil) (by rw [hps]; rfl) (.cons (.ref rfl) .nil) R hev
  refine codeAny_mono main fun r s' h => ?_
  cases r with
  | error e => exact False.elim h
  | ok fl =>
    cases fl with
    | next => exact False.elim h
    | brk => exact False.elim h
    | cont => exact False.elim h
    | ret u =>
      obtain ⟨v, H', os, bare, un, hok', r', ι', _, _, _, rb⟩ := h
      have ev := rb.blv
      subst ev
      obtain rfl : u = Value.bool true := r'
      refine ⟨rfl, OldK.of_keep fun b o e => ?_, os, bare⟩
      by_cases z : b = a
      · subst z
        have z2 := un.frzs b _ _ hHa
        obtain ⟨e2, _⟩ := hok' b _ z2
        rw [hobj] at e
        cases e
        exact e2
      · exact un.keep b o e (hHn b z) (by intro z; exact absurd (show b ∈ ([] : List Addr) from z) (by simp)) (by simp)
open PySem.W PySem.Calls HandSHeadRun
theorem law_of {l : PySem.W.OpenLaw} {q : Program} {loose : List Str} {d : DefRec} {kwd : List (Str × Expr)} {T : Text} {n M i k fuel : Nat} {t : DefT} {x : Str} (hn : l.most = some 63) (run : ∀ w, RunEq l.row q (hookT n T) (obT n T) M loose w)
    (e : opening l.row.prog = plainProg l.row.prog.main.scope.names) (f : ∀ s, fenceModules? l.row.prog s = some s)
    (hdef : defOf q l.row.name = some (d, kwd)) (hp : l.row.prog.theDef l.row.name = some (d.params, d.body, d.scope)) (hk : kwWritten? d.params.kwonlyargs d.params.kw_defaults = some kwd) (hR : l.row.records = [])
    (hwr : (!l.row.writes || l.row.records.isEmpty) = true) (k1 : l.row.wellSaid = true) (ok : (chainsOk q && opensWell l.row.prog && (frees l.row.toRowW && l.row.within.isEmpty)) = true) (hb : l.row.prog.bare) (hw : l.row.toRowW.promised)
    (okT : T.ok = true) (ht : T.defs[i]? = some t) (hat : T.gl.lookup d.name = some (.fn (.df i))) (hps : t.ps = [x]) (hsp : t.D.sig.plain = true) (hr : Room (2 * k) callerA)
    (ev : ∀ ns : List Int, ns.length ≤ 63 → ∃ h', Ev.callK T.tab fuel showsT k i [.ref 0] ⟨[.fro (ns.map .int)]⟩ = some (.bl true, h')) : l.row.Holds := by
  have left : LeftO l.row.prog q loose (fun s => xlAt q [] s && recOk l.row.toRowW.records s) (hookT n T).obs (hookT n T).val (M + 600) true :=
    left_one (M := M) e (Nat.ble_eq_true_of_le (by omega)) f (Nat.ble_eq_true_of_le (by omega)) fun w os => by
      have z := run w os
      have eo : obT n T = fun s => (hookT n T).obs s.abs := funext fun s => obT_eq n T s
      rw [eo] at z
      simp only [endQ_eq, seenQ_eq]
      exact z
  exact EvTop.ev_open (XP := XL q []) (YS := fun _ s => Says T s) hn left (fun w s z => says_of z) (fun s z => xl_of s (Bool.and_eq_true_iff.mp z).1) XL.keeps hdef hp hk (fun s z => recFacts_of (Bool.and_eq_true_iff.mp z).2) hR hwr k1 ok hb hw (call_of okT ht hat hps hsp hr ev)
end EvS
set_option Elab.async false
set_option linter.all false
set_option maxRecDepth 100000
set_option maxHeartbeats 1000000
/-! EvLib: plain lemmas about the evaluator. -/
namespace Ev
def isT : Option (D × Heap) → Bool
  | some (.bl true, _) => true
  | _ => false
theorem of_isT {r : Option (D × Heap)} (h : isT r = true) : ∃ h', r = some (.bl true, h') := by
  unfold isT at h
  split at h
  · exact ⟨_, rfl⟩
  · cases h
/-! ### heaps -/
theorem size_new (h : Heap) (c : Cell) : (h.new c).size = h.size + 1 := by simp [Heap.new, Heap.size]
theorem size_put (h : Heap) (a : Nat) (c : Cell) : (h.put a c).size = h.size := by simp [Heap.put, Heap.size]
@[simp] theorem get_new (h : Heap) (c : Cell) : (h.new c).get h.size = some c := by simp [Heap.new, Heap.size, Heap.get]
theorem get_new_lt {h : Heap} {c : Cell} {a : Nat} (l : a < h.size) : (h.new c).get a = h.get a := by
  simp only [Heap.new, Heap.get]
  exact List.getElem?_append_left l
theorem get_new_of {h : Heap} {c d : Cell} {a : Nat} (e : h.get a = some d) : (h.new c).get a = some d := by
  rw [get_new_lt (List.getElem?_eq_some_iff.mp e).1, e]
theorem lt_of_get {h : Heap} {c : Cell} {a : Nat} (e : h.get a = some c) : a < h.size := (List.getElem?_eq_some_iff.mp e).1
theorem get_put {h : Heap} {c : Cell} {a : Nat} (l : a < h.size) : (h.put a c).get a = some c := by
  simp only [Heap.put, Heap.get]
  rw [List.getElem?_set_self l]
theorem get_put_ne {h : Heap} {c : Cell} {a b : Nat} (n : a ≠ b) : (h.put a c).get b = h.get b := by
  simp only [Heap.put, Heap.get]
  rw [List.getElem?_set_ne n]
theorem get_put_of {h : Heap} {c d : Cell} {a b : Nat} (e : h.get b = some d) (n : a ≠ b) : (h.put a c).get b = some d := by rw [get_put_ne n, e]
/-- all that stood stands: but what A names -/
def Old (A : Nat → Prop) (h h' : Heap) : Prop := h.size ≤ h'.size ∧ ∀ a, a < h.size → ¬ A a → h'.get a = h.get a
abbrev Ext (h h' : Heap) : Prop := Old (fun _ => False) h h'
theorem Old.refl {A : Nat → Prop} (h : Heap) : Old A h h := ⟨Nat.le_refl _, fun _ _ _ => rfl⟩
theorem Old.trans {A : Nat → Prop} {h h1 h2 : Heap} (a : Old A h h1) (b : Old A h1 h2) : Old A h h2 := ⟨Nat.le_trans a.1 b.1, fun x l n => by rw [b.2 x (Nat.lt_of_lt_of_le l a.1) n, a.2 x l n]⟩
theorem Old.imp {A B : Nat → Prop} {h h' : Heap} (o : Old A h h') (i : ∀ a, a < h.size → A a → B a) : Old B h h' := ⟨o.1, fun a l n => o.2 a l fun z => n (i a l z)⟩
theorem Old.get {A : Nat → Prop} {h h' : Heap} {a : Nat} {c : Cell} (o : Old A h h') (e : h.get a = some c) (n : ¬ A a) : h'.get a = some c := by rw [o.2 a (lt_of_get e) n, e]
theorem Ext.get {h h' : Heap} {a : Nat} {c : Cell} (o : Ext h h') (e : h.get a = some c) : h'.get a = some c := Old.get o e (fun z => z)
theorem Ext.new (h : Heap) (c : Cell) : Ext h (h.new c) := ⟨by rw [size_new]; omega, fun a l _ => get_new_lt l⟩
/-! ### each construct -/
section
variable (X : Cx) (v : Env) (h : Heap)
theorem e_loc (i : Nat) : evE X (.loc i) v h = match v[i]? with
    | some (some d) => some (d, h)
    | _ => none := by simp only [evE] <;> rfl
theorem e_cst (d : D) : evE X (.cst d) v h = some (d, h) := by simp only [evE] <;> rfl
theorem e_glb (i : Nat) : evE X (.glb i) v h = (X.tab.glb[i]?).map fun d => (d, h) := by simp only [evE] <;> rfl
theorem e_bin (o : BOp) (a b : E) : evE X (.bin o a b) v h = match evE X a v h with
    | some (x, h1) => match evE X b v h1 with
      | some (y, h2) => binV o x y h2
      | none => none
    | none => none := by simp only [evE] <;> rfl
theorem e_neg (a : E) : evE X (.neg a) v h = match evE X a v h with
    | some (.int i, h1) => some (.int (-i), h1)
    | _ => none := by simp only [evE] <;> rfl
theorem e_not (a : E) : evE X (.not a) v h = match evE X a v h with
    | some (x, h1) => (truth h1 x).map fun b => (.bl (!b), h1)
    | none => none := by simp only [evE] <;> rfl
theorem e_cmp (o : COp) (a b : E) : evE X (.cmp o a b) v h = match evE X a v h with
    | some (x, h1) => match evE X b v h1 with
      | some (y, h2) => cmpE X o x y h2
      | none => none
    | none => none := by simp only [evE] <;> rfl
theorem e_chain (o p : COp) (a b c : E) : evE X (.chain o p a b c) v h = match evE X a v h with
    | some (x, h1) => match evE X b v h1 with
      | some (y, h2) => match cmpV o x y h2 with
        | some true => match evE X c v h2 with
          | some (z, h3) => (cmpV p y z h3).map fun b => (.bl b, h3)
          | none => none
        | some false => some (.bl false, h2)
        | none => none
      | none => none
    | none => none := by simp only [evE] <;> rfl
theorem e_and (a b : E) : evE X (.and a b) v h = match evE X a v h with
    | some (x, h1) => match truth h1 x with
      | some true => evE X b v h1
      | some false => some (x, h1)
      | none => none
    | none => none := by simp only [evE] <;> rfl
theorem e_or (a b : E) : evE X (.or a b) v h = match evE X a v h with
    | some (x, h1) => match truth h1 x with
      | some true => some (x, h1)
      | some false => evE X b v h1
      | none => none
    | none => none := by simp only [evE] <;> rfl
theorem e_ite (c a b : E) : evE X (.ite c a b) v h = match evE X c v h with
    | some (x, h1) => match truth h1 x with
      | some true => evE X a v h1
      | some false => evE X b v h1
      | none => none
    | none => none := by simp only [evE] <;> rfl
theorem e_idx (a i : E) : evE X (.idx a i) v h = match evE X a v h with
    | some (x, h1) => match evE X i v h1 with
      | some (y, h2) => (idxV x y h2).map fun d => (d, h2)
      | none => none
    | none => none := by simp only [evE] <;> rfl
theorem e_slc (a : E) (lo hi : Eo) : evE X (.slc a lo hi) v h = match evE X a v h with
    | some (x, h1) => match evO X lo v h1 with
      | some (l, h2) => match evO X hi v h2 with
        | some (u, h3) => slcV x l u h3
        | none => none
      | none => none
    | none => none := by simp only [evE] <;> rfl
theorem e_fld (a : E) (f : Nm) : evE X (.fld a f) v h = match evE X a v h with
    | some (x, h1) => (fldV x f h1).map fun d => (d, h1)
    | none => none := by simp only [evE] <;> rfl
theorem e_tup (es : Es) : evE X (.tup es) v h = match evEs X es v h with
    | some (xs, h1) => if xs.length ≤ LINE then some (.tup xs, h1) else none
    | none => none := by simp only [evE] <;> rfl
theorem e_lst (es : Es) : evE X (.lst es) v h = match evEs X es v h with
    | some (xs, h1) => if xs.length ≤ LINE then some (.ref h1.size, h1.new (.lst xs)) else none
    | none => none := by simp only [evE] <;> rfl
theorem e_dct (es : Es) : evE X (.dct es) v h = match evEs X es v (h.new (.dct [])) with
    | some (xs, h1) => match pairsD xs, h1.get h.size with
      | some ps, some (.dct []) => if ps.length ≤ 15 then some (.ref h.size, h1.put h.size (.dct (dputs [] ps))) else none
      | _, _ => none
    | none => none := by simp only [evE] <;> rfl
theorem e_call (f : Fn) (es : Es) (ks : List Nm) : evE X (.call f es ks) v h = match evEs X es v h with
    | some (xs, h1) => invoke X f ks xs h1
    | none => none := by simp only [evE] <;> rfl
theorem e_meth (o : E) (m : Nm) (es : Es) (ks : List Nm) : evE X (.meth o m es ks) v h = match evE X o v h with
    | some (x, h1) => match evEs X es v h1 with
      | some (xs, h2) => if kindM m x h1 = kindM m x h2 then methV X x m ks xs h2 else none
      | none => none
    | none => none := by simp only [evE] <;> rfl
theorem e_repl (o : E) (c : Nat) (t : Txt) : evE X (.repl o c t) v h = match evE X o v h with
    | some (.str s, h1) => if s.length + (s.length + 1) * t.length ≤ LINE then some (.str (replC c t s), h1) else none
    | _ => none := by simp only [evE] <;> rfl
theorem o_no : evO X .no v h = some (none, h) := by simp only [evO] <;> rfl
theorem o_yes (e : E) : evO X (.yes e) v h = match evE X e v h with
    | some (.int i, h1) => some (some i, h1)
    | _ => none := by simp only [evO] <;> rfl
theorem c_no : evC X .no v h = some (true, h) := by simp only [evC] <;> rfl
theorem c_yes (e : E) : evC X (.yes e) v h = match evE X e v h with
    | some (b, h1) => (truth h1 b).map fun b => (b, h1)
    | none => none := by simp only [evC] <;> rfl
theorem es_nil : evEs X .nil v h = some ([], h) := by simp only [evEs] <;> rfl
theorem es_cons (e : E) (es : Es) : evEs X (.cons e es) v h = match evE X e v h with
    | some (x, h1) => match evEs X es v h1 with
      | some (xs, h2) => some (x :: xs, h2)
      | none => none
    | none => none := by simp only [evEs] <;> rfl
theorem i_val (e : E) : evI X (.val e) v h = match evE X e v h with
    | some (x, h1) => (ofIter x h1).map fun s => (s, h1)
    | none => none := by simp only [evI] <;> rfl
theorem i_range (es : Es) : evI X (.range es) v h = match evEs X es v h with
    | some (xs, h1) => (rangeV xs).map fun s => (s, h1)
    | none => none := by simp only [evI] <;> rfl
theorem i_enum (e : E) : evI X (.enum e) v h = match evE X e v h with
    | some (x, h1) => match ofIter x h1 with
      | some (.at a) => some (.enum (.at a), h1)
      | _ => none
    | none => none := by simp only [evI] <;> rfl
theorem i_zip (a b : E) : evI X (.zip a b) v h = match evE X a v h with
    | some (x, h1) => match evE X b v h1 with
      | some (y, h2) => match ofIter x h2, ofIter y h2 with
        | some s, some t => some (.zip s t, h2)
        | _, _ => none
      | none => none
    | none => none := by simp only [evI] <;> rfl
theorem t_nm (i : Nat) (d : D) : asgT X (.nm i) d v h = (setLoc v i d).map fun v2 => (v2, h) := by simp only [asgT] <;> rfl
theorem t_tup (ts : Ts) (d : D) : asgT X (.tup ts) d v h = match items h d with
    | some xs => asgTs X ts xs v h
    | none => none := by simp only [asgT] <;> rfl
theorem t_stup (ts : Ts) (i : Nat) (d : D) : asgT X (.stup ts i) d v h = match items h d with
    | some xs => if ts.len ≤ xs.length ∧ xs.length ≤ LINE then match asgTs X ts (xs.take ts.len) v (h.new (.lst (xs.drop ts.len))) with
        | some (v2, h2) => (setLoc v2 i (.ref h.size)).map fun v3 => (v3, h2)
        | none => none
      else none
    | none => none := by simp only [asgT] <;> rfl
theorem t_idx (a i : E) (d : D) : asgT X (.idx a i) d v h = match evE X a v h with
    | some (x, h1) => match evE X i v h1 with
      | some (y, h2) => (idxPut x y d h2).map fun h3 => (v, h3)
      | none => none
    | none => none := by simp only [asgT] <;> rfl
theorem t_fld (a : E) (f : Nm) (d : D) : asgT X (.fld a f) d v h = match evE X a v h with
    | some (x, h1) => (fldPut x f d h1).map fun h2 => (v, h2)
    | none => none := by simp only [asgT] <;> rfl
theorem ts_nil : asgTs X .nil [] v h = some (v, h) := by simp only [asgTs] <;> rfl
theorem ts_cons (t : T) (ts : Ts) (x : D) (xs : List D) : asgTs X (.cons t ts) (x :: xs) v h = match asgT X t x v h with
    | some (v2, h2) => asgTs X ts xs v2 h2
    | none => none := by simp only [asgTs] <;> rfl
theorem ta_nil (d : D) : asgAll X .nil d v h = some (v, h) := by simp only [asgAll] <;> rfl
theorem ta_cons (t : T) (ts : Ts) (d : D) : asgAll X (.cons t ts) d v h = match asgT X t d v h with
    | some (v2, h2) => asgAll X ts d v2 h2
    | none => none := by simp only [asgAll] <;> rfl
theorem s_ex (e : E) : evS X (.ex e) v h = match evE X e v h with
    | some (_, h1) => some (.nx, v, h1)
    | none => none := by simp only [evS] <;> rfl
theorem s_asg (t : T) (e : E) : evS X (.asg t e) v h = match evE X e v h with
    | some (x, h1) => match asgT X t x v h1 with
      | some (v2, h2) => some (.nx, v2, h2)
      | none => none
    | none => none := by simp only [evS] <;> rfl
theorem s_asgs (ts : Ts) (e : E) : evS X (.asgs ts e) v h = match evE X e v h with
    | some (x, h1) => match asgAll X ts x v h1 with
      | some (v2, h2) => some (.nx, v2, h2)
      | none => none
    | none => none := by simp only [evS] <;> rfl
theorem s_augN (i : Nat) (o : BOp) (e : E) : evS X (.aug (.nm i) o e) v h = match v[i]? with
    | some (some x) => match evE X e v h with
      | some (y, h1) => match augV o x y h1 with
        | some (z, h2) => match setLoc v i z with
          | some v2 => some (.nx, v2, h2)
          | none => none
        | none => none
      | none => none
    | _ => none := by simp only [evS] <;> rfl
theorem s_augF (a : E) (f : Nm) (o : BOp) (e : E) : evS X (.aug (.fld a f) o e) v h = match evE X a v h with
    | some (p, h1) => match fldV p f h1 with
      | some x => match evE X e v h1 with
        | some (y, h2) => match augV o x y h2 with
          | some (z, h3) => match fldPut p f z h3 with
            | some h4 => some (.nx, v, h4)
            | none => none
          | none => none
        | none => none
      | none => none
    | none => none := by simp only [evS] <;> rfl
theorem s_ret (e : E) : evS X (.ret e) v h = match evE X e v h with
    | some (x, h1) => some (.rt x, v, h1)
    | none => none := by simp only [evS] <;> rfl
theorem s_retn : evS X .retn v h = some (.rt .non, v, h) := by simp only [evS] <;> rfl
theorem s_pass : evS X .pass v h = some (.nx, v, h) := by simp only [evS] <;> rfl
theorem s_brk : evS X .brk v h = some (.bk, v, h) := by simp only [evS] <;> rfl
theorem s_cont : evS X .cont v h = some (.ct, v, h) := by simp only [evS] <;> rfl
theorem s_ite (c : E) (a b : Ss) : evS X (.ite c a b) v h = match evE X c v h with
    | some (x, h1) => match truth h1 x with
      | some true => evSs X a v h1
      | some false => evSs X b v h1
      | none => none
    | none => none := by
  simp only [evS, evB]
  cases evE X c v h with
  | none => rfl
  | some r =>
    obtain ⟨x, h1⟩ := r
    dsimp only
    cases truth h1 x with
    | none => rfl
    | some b => cases b <;> rfl
theorem ss_nil : evSs X .nil v h = some (.nx, v, h) := by simp only [evSs] <;> rfl
theorem ss_cons (s : S) (ss : Ss) : evSs X (.cons s ss) v h = match evS X s v h with
    | some (.nx, v2, h2) => evSs X ss v2 h2
    | r => r := by simp only [evSs] <;> rfl
end
/-! ### operators, built-in names, methods at known values -/
section
variable (X : Cx) (sh : Dt → Option Txt) (h : Heap)
@[simp] theorem bi_add (i j : Int) : binV .add (.int i) (.int j) h = some (.int (i + j), h) := rfl
@[simp] theorem bi_sub (i j : Int) : binV .sub (.int i) (.int j) h = some (.int (i - j), h) := rfl
theorem bi_mul {i j : Int} (c : mulOk i j = true) : binV .mul (.int i) (.int j) h = some (.int (i * j), h) := by simp [binV, binI, c]
theorem bi_div {i j : Int} (c : 0 < j ∧ j < 1073741824) : binV .div (.int i) (.int j) h = some (.int (i / j), h) := by simp [binV, binI, c]
theorem bi_mod {i j : Int} (c : 0 < j) : binV .mod (.int i) (.int j) h = some (.int (i % j), h) := by simp [binV, binI, c]
@[simp] theorem bs_add (s t : Txt) : binV .add (.str s) (.str t) h = if s.length + t.length ≤ LINE then some (.str (s ++ t), h) else none := rfl
@[simp] theorem bt_add (s t : List D) : binV .add (.tup s) (.tup t) h = if s.length + t.length ≤ LINE then some (.tup (s ++ t), h) else none := rfl
@[simp] theorem bs_mul (s : Txt) (k : Int) : binV .mul (.str s) (.int k) h = if times k && decide (s.length * k.toNat ≤ LINE) then some (.str (rep k s), h) else none := rfl
theorem bl_add {a b : Nat} {xs ys : List D} (e1 : h.get a = some (.lst xs)) (e2 : h.get b = some (.lst ys)) (l : xs.length + ys.length ≤ LINE) : binV .add (.ref a) (.ref b) h = some (.ref h.size, h.new (.lst (xs ++ ys))) := by simp [binV, e1, e2, l]
theorem bl_mul {a : Nat} {xs : List D} {k : Int} (e1 : h.get a = some (.lst xs)) (t : times k = true) (l : xs.length * k.toNat ≤ LINE) : binV .mul (.ref a) (.int k) h = some (.ref h.size, h.new (.lst (rep k xs))) := by simp [binV, e1, t, l]
@[simp] theorem v_df (i : Nat) (ks : List Nm) (xs : List D) : invoke X (.df i) ks xs h = callDef X i [] ks xs h := rfl
@[simp] theorem v_cl (i : Nat) (ks : List Nm) (xs : List D) : invoke X (.cl i) ks xs h = make X i ks xs h := rfl
@[simp] theorem v_len (x : D) : invoke X .len [] [x] h = (lenV x h).map fun (n : Nat) => ((.int (n : Int) : D), h) := by
  have e : bltin X.shows .len [x] h = Option.map (fun n => (D.int n, h)) ((lenV x h).bind fun a => some (a : Int)) := rfl
  show bltin X.shows .len [x] h = _
  rw [e]
  cases lenV x h <;> rfl
@[simp] theorem v_repr (x : D) : invoke X .repr [] [x] h = match dat h DEEP x with
    | some d => (X.shows d).map fun t => (.str t, h)
    | none => none := rfl
@[simp] theorem v_strI (i : Int) : invoke X .str [] [.int i] h = if i.natAbs < 2 ^ 1000 then some (.str (decT i), h) else none := rfl
@[simp] theorem v_strS (s : Txt) : invoke X .str [] [.str s] h = some (.str s, h) := rfl
@[simp] theorem v_tuple (x : D) : invoke X .tuple [] [x] h = (items h x).map fun xs => (.tup xs, h) := rfl
@[simp] theorem v_list (x : D) : invoke X .list [] [x] h = (listV x h).map fun xs => (.ref h.size, h.new (.lst xs)) := rfl
@[simp] theorem v_intI (i : Int) : invoke X .int [] [.int i] h = some (.int i, h) := rfl
@[simp] theorem v_intB (b : Bool) : invoke X .int [] [.bl b] h = some (.int (if b then 1 else 0), h) := rfl
@[simp] theorem v_intS (s : Txt) : invoke X .int [] [.str s] h = if s.isEmpty || decide (s.length > 640) then none else (readN 0 s).map fun (n : Nat) => ((.int (n : Int) : D), h) := by
  have e : bltin X.shows .int [.str s] h = if s.isEmpty || decide (s.length > 640) then none else Option.map (fun n => (D.int n, h)) ((readN 0 s).bind fun a => some (a : Int)) := rfl
  show bltin X.shows .int [.str s] h = _
  rw [e]
  cases readN 0 s <;> rfl
@[simp] theorem v_abs (i : Int) : invoke X .abs [] [.int i] h = some (.int (if i < 0 then -i else i), h) := rfl
@[simp] theorem v_ord (c : Nat) : invoke X .ord [] [.str [c]] h = some (.int c, h) := rfl
@[simp] theorem v_min (i j : Int) : invoke X .min [] [.int i, .int j] h = some (.int (if j < i then j else i), h) := rfl
@[simp] theorem v_max (i j : Int) : invoke X .max [] [.int i, .int j] h = some (.int (if j > i then j else i), h) := rfl
@[simp] theorem v_lenset (s : Txt) : invoke X .lenset [] [.str s] h = if s.length < 4000 then some (.int (uniq s).length, h) else none := rfl
@[simp] theorem v_isinst (t : Ty) (x : D) : invoke X (.isinst t) [] [x] h = (isinst t x h).map fun b => (.bl b, h) := rfl
theorem v_sum {a : Nat} {ns : List Int} {xs : List D} (e : h.get a = some (.lst xs)) (m : Ev.intsL xs = some ns) : invoke X .sum [] [.ref a] h = some (.int ns.sum, h) := by simp [invoke, bltin, items, e, m]
theorem v_all {a : Nat} {ns : List Bool} {xs : List D} (e : h.get a = some (.lst xs)) (m : bools xs = some ns) : invoke X .all [] [.ref a] h = some (.bl (ns.all id), h) := by simp [invoke, bltin, items, e, m]
theorem v_any {a : Nat} {ns : List Bool} {xs : List D} (e : h.get a = some (.lst xs)) (m : bools xs = some ns) : invoke X .any [] [.ref a] h = some (.bl (ns.any id), h) := by simp [invoke, bltin, items, e, m]
theorem v_minL {a : Nat} {n : Int} {ns : List Int} {xs : List D} (e : h.get a = some (.lst xs)) (m : Ev.intsL xs = some (n :: ns)) : invoke X .min [] [.ref a] h = some (.int (minL n ns), h) := by simp [invoke, bltin, items, e, m]
theorem v_maxL {a : Nat} {n : Int} {ns : List Int} {xs : List D} (e : h.get a = some (.lst xs)) (m : Ev.intsL xs = some (n :: ns)) : invoke X .max [] [.ref a] h = some (.int (maxL n ns), h) := by simp [invoke, bltin, items, e, m]
@[simp] theorem l_str (s : Txt) : lenV (.str s) h = some s.length := rfl
@[simp] theorem l_tup (s : List D) : lenV (.tup s) h = some s.length := rfl
theorem l_lst {a : Nat} {xs : List D} (e : h.get a = some (.lst xs)) : lenV (.ref a) h = some xs.length := by simp [lenV, e]
theorem l_fro {a : Nat} {xs : List D} (e : h.get a = some (.fro xs)) : lenV (.ref a) h = some xs.length := by simp [lenV, e]
theorem l_dct {a : Nat} {xs : List (Ky × D)} (e : h.get a = some (.dct xs)) : lenV (.ref a) h = some xs.length := by simp [lenV, e]
@[simp] theorem tr_non : truth h .non = some false := rfl
@[simp] theorem tr_bl (b : Bool) : truth h (.bl b) = some b := rfl
@[simp] theorem tr_int (i : Int) : truth h (.int i) = some (i != 0) := rfl
@[simp] theorem tr_str (s : Txt) : truth h (.str s) = some (!s.isEmpty) := rfl
@[simp] theorem tr_tup (s : List D) : truth h (.tup s) = some (!s.isEmpty) := rfl
theorem tr_lst {a : Nat} {xs : List D} (e : h.get a = some (.lst xs)) : truth h (.ref a) = some (!xs.isEmpty) := by simp [truth, e]
@[simp] theorem it_tup (s : List D) : items h (.tup s) = some s := rfl
theorem it_lst {a : Nat} {xs : List D} (e : h.get a = some (.lst xs)) : items h (.ref a) = some xs := by simp [items, e]
theorem it_fro {a : Nat} {xs : List D} (e : h.get a = some (.fro xs)) : items h (.ref a) = some xs := by simp [items, e]
@[simp] theorem ls_str (s : Txt) : listV (.str s) h = some (s.map fun c => .str [c]) := rfl
@[simp] theorem ls_tup (s : List D) : listV (.tup s) h = some s := rfl
theorem ls_lst {a : Nat} {xs : List D} (e : h.get a = some (.lst xs)) : listV (.ref a) h = some xs := by simp [listV, items, e]
@[simp] theorem of_str (s : Txt) : ofIter (.str s) h = some (.fix (s.map fun c => .str [c])) := rfl
@[simp] theorem of_tup (s : List D) : ofIter (.tup s) h = some (.fix s) := rfl
theorem of_lst {a : Nat} {xs : List D} (e : h.get a = some (.lst xs)) : ofIter (.ref a) h = some (.at a) := by simp [ofIter, e]
theorem of_fro {a : Nat} {xs : List D} (e : h.get a = some (.fro xs)) : ofIter (.ref a) h = some (.at a) := by simp [ofIter, e]
@[simp] theorem sl_str (s : Txt) (l u : Option Int) : slcV (.str s) l u h = some (.str (cut s l u), h) := rfl
@[simp] theorem sl_tup (s : List D) (l u : Option Int) : slcV (.tup s) l u h = some (.tup (cut s l u), h) := rfl
theorem sl_lst {a : Nat} {xs : List D} (l u : Option Int) (e : h.get a = some (.lst xs)) : slcV (.ref a) l u h = some (.ref h.size, h.new (.lst (cut xs l u))) := by simp [slcV, e]
theorem sl_fro {a : Nat} {xs : List D} (l u : Option Int) (e : h.get a = some (.fro xs)) : slcV (.ref a) l u h = some (.ref h.size, h.new (.lst (cut xs l u))) := by simp [slcV, e]
@[simp] theorem ix_str (s : Txt) (i : Int) : idxV (.str s) (.int i) h = ((place s.length i).bind fun j => s[j]?).map fun c => .str [c] := rfl
@[simp] theorem ix_tup (s : List D) (i : Int) : idxV (.tup s) (.int i) h = (place s.length i).bind fun j => s[j]? := rfl
theorem ix_lst {a : Nat} {xs : List D} (i : Int) (e : h.get a = some (.lst xs)) : idxV (.ref a) (.int i) h = (place xs.length i).bind fun j => xs[j]? := by simp [idxV, e]
theorem ix_fro {a : Nat} {xs : List D} (i : Int) (e : h.get a = some (.fro xs)) : idxV (.ref a) (.int i) h = (place xs.length i).bind fun j => xs[j]? := by simp [idxV, e]
theorem ix_dctS {a : Nat} {xs : List (Ky × D)} (s : Txt) (e : h.get a = some (.dct xs)) : idxV (.ref a) (.str s) h = dlook xs (.s s) := by simp [idxV, e, keyOf]
@[simp] theorem place_nat (n i : Nat) : place n (i : Int) = if i < n then some i else none := by
  unfold place
  have : (0 : Int) ≤ i := by omega
  simp [this]
@[simp] theorem place_zero (n : Nat) : place n 0 = if 0 < n then some 0 else none := by
  have := place_nat n 0
  simpa using this
theorem fd_obj {a c : Nat} {fs : List (Nm × D)} (f : Nm) (e : h.get a = some (.obj c fs)) : fldV (.ref a) f h = flook fs f := by simp [fldV, e]
theorem fp_obj {a c : Nat} {fs : List (Nm × D)} (f : Nm) (d : D) (e : h.get a = some (.obj c fs)) (l : fs.length < 900) : fldPut (.ref a) f d h = some (h.put a (.obj c (fput fs f d))) := by simp [fldPut, e, l]
@[simp] theorem ct_eq (x y : D) : cmpV .eq x y h = eqV x y h := rfl
@[simp] theorem ct_ne (x y : D) : cmpV .ne x y h = (eqV x y h).map (!·) := rfl
@[simp] theorem ct_in (x y : D) : cmpV .isin x y h = inV x y h := rfl
@[simp] theorem ct_nin (x y : D) : cmpV .notin x y h = (inV x y h).map (!·) := rfl
@[simp] theorem ct_lt (i j : Int) : cmpV .lt (.int i) (.int j) h = some (decide (i < j)) := rfl
@[simp] theorem ct_le (i j : Int) : cmpV .le (.int i) (.int j) h = some (decide (i ≤ j)) := rfl
@[simp] theorem ct_leS (s t : Txt) : cmpV .le (.str s) (.str t) h = some (!ltT t s) := rfl
@[simp] theorem ct_gt (i j : Int) : cmpV .gt (.int i) (.int j) h = some (decide (j < i)) := rfl
@[simp] theorem ct_ge (i j : Int) : cmpV .ge (.int i) (.int j) h = some (decide (j ≤ i)) := rfl
@[simp] theorem ct_isN (x : D) : cmpV .isn x .non h = some (match x with | .non => true | _ => false) := by cases x <;> rfl
@[simp] theorem ct_notN (x : D) : cmpV .notn x .non h = some (match x with | .non => false | _ => true) := by cases x <;> rfl
@[simp] theorem eq_ii (i j : Int) : eqV (.int i) (.int j) h = some (i == j) := rfl
@[simp] theorem eq_ss (s t : Txt) : eqV (.str s) (.str t) h = some (s == t) := rfl
@[simp] theorem eq_bb (s t : Bool) : eqV (.bl s) (.bl t) h = some (s == t) := rfl
@[simp] theorem eq_sn (s : Txt) : eqV (.str s) .non h = some false := rfl
@[simp] theorem eq_ns (s : Txt) : eqV .non (.str s) h = some false := rfl
@[simp] theorem eq_nn : eqV .non .non h = some true := rfl
@[simp] theorem in_ss (s t : Txt) : inV (.str s) (.str t) h = some (isInfix s t) := rfl
theorem in_tup (x : D) (xs : List D) : inV x (.tup xs) h = if flat x && xs.all flat then some (xs.any fun y => eqF y x) else none := by cases x <;> rfl
@[simp] theorem cm_non (o : COp) (y : D) : cmpE X o .non y h = (cmpV o .non y h).map fun b => (.bl b, h) := rfl
@[simp] theorem cm_bl (o : COp) (b : Bool) (y : D) : cmpE X o (.bl b) y h = (cmpV o (.bl b) y h).map fun b => (.bl b, h) := rfl
@[simp] theorem cm_int (o : COp) (b : Int) (y : D) : cmpE X o (.int b) y h = (cmpV o (.int b) y h).map fun b => (.bl b, h) := rfl
@[simp] theorem cm_str (o : COp) (b : Txt) (y : D) : cmpE X o (.str b) y h = (cmpV o (.str b) y h).map fun b => (.bl b, h) := rfl
@[simp] theorem cm_tup (o : COp) (b : List D) (y : D) : cmpE X o (.tup b) y h = (cmpV o (.tup b) y h).map fun b => (.bl b, h) := rfl
theorem cm_lst {a : Nat} {xs : List D} (o : COp) (y : D) (e : h.get a = some (.lst xs)) : cmpE X o (.ref a) y h = (cmpV o (.ref a) y h).map fun b => (.bl b, h) := by simp [cmpE, e]
theorem cm_dct {a : Nat} {xs : List (Ky × D)} (o : COp) (y : D) (e : h.get a = some (.dct xs)) : cmpE X o (.ref a) y h = (cmpV o (.ref a) y h).map fun b => (.bl b, h) := by simp [cmpE, e]
@[simp] theorem r_1 (n : Int) : rangeV [.int n] = if bounded n then some (.fix (upto n.toNat 0)) else none := rfl
@[simp] theorem r_2 (a b : Int) : rangeV [.int a, .int b] = if bounded a && bounded b then some (.fix (upto (b - a).toNat a)) else none := rfl
end
/-! ### slices -/
theorem cut_to {α : Type} (xs : List α) (n : Nat) : cut xs none (some (n : Int)) = xs.take n := by
  unfold cut bound
  have h : ¬ ((n : Int) < 0) := by omega
  simp only [h, if_false, List.drop_zero, Int.toNat_natCast, Nat.sub_zero]
  rw [List.take_eq_take_iff]
  omega
theorem cut_from {α : Type} (xs : List α) (n : Nat) : cut xs (some (n : Int)) none = xs.drop n := by
  unfold cut bound
  have h : ¬ ((n : Int) < 0) := by omega
  simp only [h, if_false, Int.toNat_natCast]
  by_cases z : n ≤ xs.length
  · rw [Nat.min_eq_left z, List.take_of_length_le (by rw [List.length_drop]; exact Nat.le_refl _)]
  · rw [Nat.min_eq_right (by omega), Nat.sub_self, List.take_zero, List.drop_of_length_le (by omega)]
theorem cut_mid {α : Type} (xs : List α) (n m : Nat) : cut xs (some (n : Int)) (some (m : Int)) = (xs.drop n).take (m - n) := by
  unfold cut bound
  have h : ¬ ((n : Int) < 0) := by omega
  have h2 : ¬ ((m : Int) < 0) := by omega
  simp only [h, h2, if_false, Int.toNat_natCast]
  by_cases z : n ≤ xs.length
  · rw [Nat.min_eq_left z, List.take_eq_take_iff, List.length_drop]
    have : min (min m xs.length - n) (xs.length - n) = min (m - n) (xs.length - n) := by omega
    exact this
  · have e1 : xs.drop (min n xs.length) = [] := List.drop_of_length_le (by omega)
    have e2 : xs.drop n = [] := List.drop_of_length_le (by omega)
    rw [e1, e2, List.take_nil, List.take_nil]
theorem cut_last {α : Type} (xs : List α) : cut xs none (some (-1)) = xs.dropLast := by
  unfold cut bound
  have h : ((-1 : Int) < 0) := by decide
  simp only [h, if_true, List.drop_zero, Nat.sub_zero]
  rw [List.dropLast_eq_take]
  congr 1
  omega
theorem cut_all {α : Type} (xs : List α) : cut xs none none = xs := by
  unfold cut bound
  simp
/-! ### rows of intsL, texts -/
theorem ints_map : ∀ ns : List Int, Ev.intsL (ns.map .int) = some ns
  | [] => rfl
  | n :: ns => by simp [Ev.intsL, ints_map ns]
theorem texts_map : ∀ ns : List Txt, texts (ns.map .str) = some ns
  | [] => rfl
  | n :: ns => by simp [texts, texts_map ns]
theorem bools_map : ∀ ns : List Bool, bools (ns.map .bl) = some ns
  | [] => rfl
  | n :: ns => by simp [bools, bools_map ns]
/-! ### loops -/
/-- P i: ahead of turn i; n turns, none leaves -/
theorem loopF_inv {src : Src} {b : D → Env → Heap → ResS} (n : Nat) (P : Nat → Env → Heap → Prop) (stop : ∀ v h, P n v h → src.nxt h n = some none)
    (step : ∀ i v h, i < n → P i v h → ∃ x, src.nxt h i = some (some x) ∧ ∃ v' h', (b x v h = some (.nx, v', h') ∨ b x v h = some (.ct, v', h')) ∧ P (i + 1) v' h') :
    ∀ (m i : Nat) (v : Env) (h : Heap), i ≤ n → n - i < m → P i v h → ∃ v' h', loopF src b m i v h = some (.nx, v', h') ∧ P n v' h'
  | 0, _, _, _, _, l, _ => absurd l (Nat.not_lt_zero _)
  | m + 1, i, v, h, le, l, p => by
    unfold loopF
    by_cases e : i = n
    · subst e
      rw [stop v h p]
      exact ⟨v, h, rfl, p⟩
    · obtain ⟨x, e1, v', h', e2, p'⟩ := step i v h (by omega) p
      rw [e1]
      have ih := loopF_inv n P stop step m (i + 1) v' h' (by omega) (by omega) p'
      dsimp only
      rcases e2 with e2 | e2
      · rw [e2]; exact ih
      · rw [e2]; exact ih
/-- .. or one leaves with Q -/
theorem loopF_inv' {src : Src} {b : D → Env → Heap → ResS} (n : Nat) (P : Nat → Env → Heap → Prop) (Q : D → Heap → Prop) (stop : ∀ v h, P n v h → src.nxt h n = some none)
    (step : ∀ i v h, i < n → P i v h → ∃ x, src.nxt h i = some (some x) ∧ ((∃ v' h', (b x v h = some (.nx, v', h') ∨ b x v h = some (.ct, v', h')) ∧ P (i + 1) v' h') ∨ ∃ d v' h', b x v h = some (.rt d, v', h') ∧ Q d h')) :
    ∀ (m i : Nat) (v : Env) (h : Heap), i ≤ n → n - i < m → P i v h → (∃ v' h', loopF src b m i v h = some (.nx, v', h') ∧ P n v' h') ∨ ∃ d v' h', loopF src b m i v h = some (.rt d, v', h') ∧ Q d h'
  | 0, _, _, _, _, l, _ => absurd l (Nat.not_lt_zero _)
  | m + 1, i, v, h, le, l, p => by
    unfold loopF
    by_cases e : i = n
    · subst e
      rw [stop v h p]
      exact .inl ⟨v, h, rfl, p⟩
    · obtain ⟨x, e1, e2⟩ := step i v h (by omega) p
      rw [e1]
      dsimp only
      rcases e2 with ⟨v', h', e2, p'⟩ | ⟨d, v', h', e2, q⟩
      · have ih := loopF_inv' n P Q stop step m (i + 1) v' h' (by omega) (by omega) p'
        rcases e2 with e2 | e2
        · rw [e2]; exact ih
        · rw [e2]; exact ih
      · rw [e2]
        exact .inr ⟨d, v', h', rfl, q⟩
/-- a while: M falls -/
theorem loopW_inv {c : Env → Heap → Res Bool} {b : Env → Heap → ResS} (P : Env → Heap → Prop) (M : Env → Heap → Nat) (Q : Env → Heap → Prop)
    (step : ∀ v h, P v h → (∃ h', c v h = some (false, h') ∧ Q v h') ∨ ∃ h1 v2 h2, c v h = some (true, h1) ∧ (b v h1 = some (.nx, v2, h2) ∨ b v h1 = some (.ct, v2, h2)) ∧ P v2 h2 ∧ M v2 h2 < M v h) :
    ∀ (m : Nat) (v : Env) (h : Heap), M v h < m → P v h → ∃ v' h', loopW c b m v h = some (.nx, v', h') ∧ Q v' h'
  | 0, _, _, l, _ => absurd l (Nat.not_lt_zero _)
  | m + 1, v, h, l, p => by
    unfold loopW
    rcases step v h p with ⟨h', e, q⟩ | ⟨h1, v2, h2, e, e2, p2, lt⟩
    · rw [e]
      exact ⟨v, h', rfl, q⟩
    · rw [e]
      have ih := loopW_inv P M Q step m v2 h2 (by omega) p2
      dsimp only
      rcases e2 with e2 | e2
      · rw [e2]; exact ih
      · rw [e2]; exact ih
/-- a comprehension that makes nothing but its list: g tells the new item, or none -/
theorem loopC_pure {src : Src} {f : D → Heap → Option (Option D × Heap)} {r : Nat} (xs : List D) (g : D → Option D) (P : Heap → Prop)
    (hsrc : ∀ h i, P h → src.nxt h i = some xs[i]?) (hf : ∀ h x, P h → x ∈ xs → f x h = some (g x, h)) (hput : ∀ h ys, P h → P (h.put r (.lst ys))) :
    ∀ (m i : Nat) (h : Heap) (acc : List D), xs.length - i < m → i ≤ xs.length → acc.length + (xs.length - i) ≤ LINE → P h → h.get r = some (.lst acc) → loopC src f r m i h = some (h.put r (.lst (acc ++ (xs.drop i).filterMap g)))
  | 0, _, _, _, l, _, _, _, _ => absurd l (Nat.not_lt_zero _)
  | m + 1, i, h, acc, l, li, ll, p, e => by
    unfold loopC
    rw [hsrc h i p]
    cases hx : xs[i]? with
    | none =>
      have : xs.length ≤ i := List.getElem?_eq_none_iff.mp hx
      rw [List.drop_of_length_le this]
      simp only [List.filterMap_nil, List.append_nil]
      have : h.put r (.lst acc) = h := by
        simp only [Heap.put]
        congr 1
        have hl := lt_of_get e
        apply List.ext_getElem?
        intro j
        by_cases ej : r = j
        · subst ej
          rw [List.getElem?_set_self hl]
          exact e.symm
        · rw [List.getElem?_set_ne ej]
      rw [this]
    | some x =>
      have hi : i < xs.length := (List.getElem?_eq_some_iff.mp hx).1
      have hm : x ∈ xs := List.mem_of_getElem? hx
      have hd : xs.drop i = x :: xs.drop (i + 1) := by
        rw [List.drop_eq_getElem_cons hi]
        congr 1
        exact (List.getElem?_eq_some_iff.mp hx).2
      dsimp only
      rw [hf h x p hm, hd]
      cases hg : g x with
      | none =>
        dsimp only
        rw [loopC_pure xs g P hsrc hf hput m (i + 1) h acc (by omega) (by omega) (by omega) p e]
        simp [hg]
      | some y =>
        dsimp only
        rw [e]
        dsimp only
        rw [if_pos (by omega)]
        have e2 : (h.put r (.lst (acc ++ [y]))).get r = some (.lst (acc ++ [y])) := get_put (lt_of_get e)
        rw [loopC_pure xs g P hsrc hf hput m (i + 1) _ (acc ++ [y]) (by omega) (by omega) (by rw [List.length_append, List.length_singleton]; omega) (hput h _ p) e2]
        simp [hg, Heap.put, List.append_assoc]
theorem put_new' (h : Heap) (c d : Cell) : (h.new c).put h.size d = h.new d := by
  simp [Heap.new, Heap.put, Heap.size]
/-- the body of a comprehension -/
def compB (X : Cx) (e : E) (t : T) (c : Eo) (v : Env) (x : D) (h : Heap) : Option (Option D × Heap) := match asgT X t x v h with
  | some (v2, h2) => match evC X c v2 h2 with
    | some (true, h3) => match evE X e v2 h3 with
      | some (y, h4) => some (some y, h4)
      | none => none
    | some (false, h3) => some (none, h3)
    | none => none
  | none => none
theorem evE_comp (X : Cx) (e : E) (t : T) (it : It) (c : Eo) (own : List Nat) (v : Env) (h : Heap) : evE X (.comp e t it c own) v h = match evI X it v h with
    | some (src, h1) => match loopC src (compB X e t c (wipe v own)) h1.size (src.len h1 + 1) 0 (h1.new (.lst [])) with
      | some h2 => some (.ref h1.size, h2)
      | none => none
    | none => none := by
  simp only [evE]
  rfl
/-- a comprehension whose body makes nothing -/
theorem comp_pure {X : Cx} {e : E} {t : T} {it : It} {c : Eo} {own : List Nat} {v : Env} {h h1 : Heap} {src : Src} (xs : List D) (g : D → Option D) (hit : evI X it v h = some (src, h1)) (hs : ∀ ys i, src.nxt (h1.new (.lst ys)) i = some xs[i]?) (hn : src.len h1 = xs.length) (hl : xs.length ≤ LINE)
    (hf : ∀ ys x, x ∈ xs → compB X e t c (wipe v own) x (h1.new (.lst ys)) = some (g x, h1.new (.lst ys))) : evE X (.comp e t it c own) v h = some (.ref h1.size, h1.new (.lst (xs.filterMap g))) := by
  rw [evE_comp, hit]
  dsimp only
  rw [hn, loopC_pure xs g (fun h' => ∃ ys, h' = h1.new (.lst ys)) (fun h' i ⟨ys, p⟩ => by subst p; exact hs ys i) (fun h' x ⟨ys, p⟩ m => by subst p; exact hf ys x m) (fun h' ys ⟨zs, p⟩ => ⟨ys, by rw [p, put_new']⟩) (xs.length + 1) 0 (h1.new (.lst [])) [] (by omega) (by omega) (by simpa using hl) ⟨[], rfl⟩ (get_new _ _)]
  simp [put_new']
theorem fm_enc {α : Type} (enc : α → D) (g : D → Option D) (k : α → Option D) : ∀ (xs : List α), (∀ x ∈ xs, g (enc x) = k x) → (xs.map enc).filterMap g = xs.filterMap k
  | [], _ => rfl
  | x :: xs, h => by
    rw [List.map_cons, List.filterMap_cons, List.filterMap_cons, h x List.mem_cons_self, fm_enc enc g k xs fun y m => h y (List.mem_cons_of_mem _ m)]
/-- .. of rows whose items are all of one kind -/
theorem comp_enc {X : Cx} {e : E} {t : T} {it : It} {c : Eo} {own : List Nat} {v : Env} {h h1 : Heap} {src : Src} {α : Type} (xs : List α) (enc : α → D) (k : α → Option D) (hit : evI X it v h = some (src, h1)) (hs : ∀ ys i, src.nxt (h1.new (.lst ys)) i = some (xs.map enc)[i]?) (hn : src.len h1 = xs.length) (hl : xs.length ≤ LINE)
    (hf : ∀ ys x, x ∈ xs → compB X e t c (wipe v own) (enc x) (h1.new (.lst ys)) = some (k x, h1.new (.lst ys))) : evE X (.comp e t it c own) v h = some (.ref h1.size, h1.new (.lst (xs.filterMap k))) := by
  classical
  have hd : ∀ d ∈ xs.map enc, ∀ ys, ∃ x, x ∈ xs ∧ enc x = d ∧ compB X e t c (wipe v own) d (h1.new (.lst ys)) = some (k x, h1.new (.lst ys)) := fun d m ys => by
    obtain ⟨x, mx, rfl⟩ := List.mem_map.mp m
    exact ⟨x, mx, rfl, hf ys x mx⟩
  have uni : ∀ x ∈ xs, ∀ y ∈ xs, enc x = enc y → k x = k y := fun x mx y my e => by
    have a := hf [] x mx
    rw [e, hf [] y my] at a
    simpa using (Option.some.inj a).symm
  have main := comp_pure (X := X) (e := e) (t := t) (it := it) (c := c) (own := own) (v := v) (h := h) (xs.map enc) (fun d => if z : ∃ x, x ∈ xs ∧ enc x = d then k (Classical.choose z) else none) hit hs (by rw [hn, List.length_map]) (by rw [List.length_map]; exact hl) (fun ys d m => by
    obtain ⟨x, mx, ex, ec⟩ := hd d m ys
    have z : ∃ x, x ∈ xs ∧ enc x = d := ⟨x, mx, ex⟩
    rw [dif_pos z, ec]
    have q := Classical.choose_spec z
    rw [uni x mx _ q.1 (ex.trans q.2.symm)])
  rw [main, fm_enc enc _ k xs fun x m => ?_]
  have z : ∃ y, y ∈ xs ∧ enc y = enc x := ⟨x, m, rfl⟩
  rw [dif_pos z]
  have q := Classical.choose_spec z
  exact uni _ q.1 x m q.2
theorem comp_map {X : Cx} {e : E} {t : T} {it : It} {own : List Nat} {v : Env} {h h1 : Heap} {src : Src} {α : Type} (xs : List α) (enc : α → D) (k : α → D) (hit : evI X it v h = some (src, h1)) (hs : ∀ ys i, src.nxt (h1.new (.lst ys)) i = some (xs.map enc)[i]?) (hn : src.len h1 = xs.length) (hl : xs.length ≤ LINE)
    (hf : ∀ ys x, x ∈ xs → ∃ v2, asgT X t (enc x) (wipe v own) (h1.new (.lst ys)) = some (v2, h1.new (.lst ys)) ∧ evE X e v2 (h1.new (.lst ys)) = some (k x, h1.new (.lst ys))) : evE X (.comp e t it .no own) v h = some (.ref h1.size, h1.new (.lst (xs.map k))) := by
  rw [comp_enc xs enc (fun x => some (k x)) hit hs hn hl (fun ys x m => by
    obtain ⟨v2, a, b⟩ := hf ys x m
    unfold compB
    rw [a]
    simp only [evC, b])]
  have : xs.filterMap (fun x => some (k x)) = xs.map k := by
    induction xs with
    | nil => rfl
    | cons x xs ih => simp
  rw [this]
/-- a list walked -/
theorem nxt_at {h : Heap} {a : Nat} {xs : List D} (e : h.get a = some (.lst xs)) (i : Nat) : (Src.at a).nxt h i = some xs[i]? := by simp only [Src.nxt, e]
theorem nxt_fro {h : Heap} {a : Nat} {xs : List D} (e : h.get a = some (.fro xs)) (i : Nat) : (Src.at a).nxt h i = some xs[i]? := by simp only [Src.nxt, e]
theorem nxt_fix {h : Heap} {xs : List D} (i : Nat) : (Src.fix xs).nxt h i = some xs[i]? := rfl
theorem len_at {h : Heap} {a : Nat} {xs : List D} (e : h.get a = some (.lst xs)) : (Src.at a).len h = xs.length := by simp only [Src.len, e]
theorem filterMap_some {α β : Type} (g : α → β) : ∀ xs : List α, xs.filterMap (fun x => some (g x)) = xs.map g
  | [] => rfl
  | x :: xs => by simp [filterMap_some g xs]
/-- the body of a for -/
def forB (X : Cx) (t : T) (b : Ss) (x : D) (v : Env) (h : Heap) : ResS := match asgT X t x v h with
  | some (v2, h2) => evSs X b v2 h2
  | none => none
theorem evS_for (X : Cx) (t : T) (it : It) (b : Ss) (v : Env) (h : Heap) : evS X (.for_ t it b) v h = match evI X it v h with
    | some (src, h1) => loopF src (forB X t b) (src.len h1 + 1) 0 v h1
    | none => none := by
  simp only [evS]
  rfl
theorem forB_of {X : Cx} {t : T} {b : Ss} {x : D} {v v1 : Env} {h h1 : Heap} (e : asgT X t x v h = some (v1, h1)) : forB X t b x v h = evSs X b v1 h1 := by
  unfold forB
  rw [e]
/-- a for as a fold -/
theorem for_fold {X : Cx} {t : T} {it : It} {b : Ss} {v : Env} {h h1 : Heap} {src : Src} {α σ : Type} (xs : List α) (enc : α → D) (step : σ → α → σ) (I : σ → Env → Heap → Prop) (s0 : σ) (hit : evI X it v h = some (src, h1)) (hn : src.len h1 = xs.length)
    (hs : ∀ s v h i, I s v h → src.nxt h i = some (xs.map enc)[i]?)
    (hb : ∀ s x v h, x ∈ xs → I s v h → ∃ v1 h1 v' h', asgT X t (enc x) v h = some (v1, h1) ∧ (evSs X b v1 h1 = some (.nx, v', h') ∨ evSs X b v1 h1 = some (.ct, v', h')) ∧ I (step s x) v' h') (p : I s0 v h1) :
    ∃ v' h', evS X (.for_ t it b) v h = some (.nx, v', h') ∧ I (xs.foldl step s0) v' h' := by
  rw [evS_for, hit]
  dsimp only
  have main : ∀ (m i : Nat) (s : σ) (v : Env) (h : Heap), xs.length - i < m → i ≤ xs.length → I s v h → ∃ v' h', loopF src (forB X t b) m i v h = some (.nx, v', h') ∧ I ((xs.drop i).foldl step s) v' h' := by
    intro m
    induction m with
    | zero => intro i s v h l; exact absurd l (Nat.not_lt_zero _)
    | succ m ih =>
      intro i s v h l le p
      unfold loopF
      rw [hs s v h i p, List.getElem?_map]
      cases hx : xs[i]? with
      | none =>
        have : xs.length ≤ i := List.getElem?_eq_none_iff.mp hx
        rw [List.drop_of_length_le this]
        exact ⟨v, h, rfl, p⟩
      | some x =>
        have hi : i < xs.length := (List.getElem?_eq_some_iff.mp hx).1
        have hm : x ∈ xs := List.mem_of_getElem? hx
        have hd : xs.drop i = x :: xs.drop (i + 1) := by
          rw [List.drop_eq_getElem_cons hi]
          congr 1
          exact (List.getElem?_eq_some_iff.mp hx).2
        obtain ⟨v1, h1, v', h', e1, e2, p'⟩ := hb s x v h hm p
        rw [hd]
        simp only [Option.map_some, forB_of e1, List.foldl_cons]
        obtain ⟨v2, h2, e3, p2⟩ := ih (i + 1) (step s x) v' h' (by omega) (by omega) p'
        rcases e2 with e2 | e2
        · rw [e2]; exact ⟨v2, h2, e3, p2⟩
        · rw [e2]; exact ⟨v2, h2, e3, p2⟩
  rw [hn]
  have := main (xs.length + 1) 0 s0 v h1 (by omega) (by omega) p
  simpa using this
end Ev
set_option Elab.async false
set_option linter.all false
set_option maxRecDepth 100000
set_option maxHeartbeats 1000000
/-! EvWp: what an evaluation comes to, by what is to be shown behind it. -/
namespace Ev
class Kc (α : Type) where go : α → Heap → Prop
class Ko (α : Type) where go : α → Prop
class Kb where
  t : Prop
  f : Prop
class Ks where go : Fl → Env → Heap → Prop
def Wp {α : Type} (r : Option (α × Heap)) [k : Kc α] : Prop := match r with
  | some (a, h) => k.go a h
  | none => False
def Wo {α : Type} (r : Option α) [k : Ko α] : Prop := match r with
  | some a => k.go a
  | none => False
def Wb (r : Option Bool) [k : Kb] : Prop := match r with
  | some true => k.t
  | some false => k.f
  | none => False
def Ws (r : ResS) [k : Ks] : Prop := match r with
  | some (f, v, h) => k.go f v h
  | none => False
section
variable {α β : Type}
theorem Wp.to {r : Option (α × Heap)} {Q : α → Heap → Prop} (w : @Wp α r ⟨Q⟩) : ∃ a h, r = some (a, h) ∧ Q a h := by
  unfold Wp at w
  split at w
  · exact ⟨_, _, rfl, w⟩
  · exact w.elim
theorem Wp.of {r : Option (α × Heap)} {a : α} {h : Heap} {k : Kc α} (e : r = some (a, h)) (q : k.go a h) : @Wp α r k := by rw [e]; exact q
theorem Wp.mono {r : Option (α × Heap)} {P : α → Heap → Prop} {k : Kc α} (w : @Wp α r ⟨P⟩) (m : ∀ a h, P a h → k.go a h) : @Wp α r k := by
  obtain ⟨a, h, e, q⟩ := w.to
  exact .of e (m a h q)
theorem Ws.to {r : ResS} {Q : Fl → Env → Heap → Prop} (w : @Ws r ⟨Q⟩) : ∃ f v h, r = some (f, v, h) ∧ Q f v h := by
  unfold Ws at w
  split at w
  · exact ⟨_, _, _, rfl, w⟩
  · exact w.elim
theorem Ws.of {r : ResS} {f : Fl} {v : Env} {h : Heap} {k : Ks} (e : r = some (f, v, h)) (q : k.go f v h) : @Ws r k := by rw [e]; exact q
theorem Ws.mono {r : ResS} {P : Fl → Env → Heap → Prop} {k : Ks} (w : @Ws r ⟨P⟩) (m : ∀ f v h, P f v h → k.go f v h) : @Ws r k := by
  obtain ⟨f, v, h, e, q⟩ := w.to
  exact .of e (m f v h q)
/-! what is known -/
@[simp] theorem wp_some {a : α} {h : Heap} {k : Kc α} : @Wp α (some (a, h)) k ↔ k.go a h := Iff.rfl
@[simp] theorem wp_none {k : Kc α} : @Wp α none k ↔ False := Iff.rfl
@[simp] theorem wo_some {a : α} {k : Ko α} : @Wo α (some a) k ↔ k.go a := Iff.rfl
@[simp] theorem wo_none {k : Ko α} : @Wo α none k ↔ False := Iff.rfl
@[simp] theorem wb_true {k : Kb} : @Wb (some true) k ↔ k.t := Iff.rfl
@[simp] theorem wb_false {k : Kb} : @Wb (some false) k ↔ k.f := Iff.rfl
@[simp] theorem wb_none {k : Kb} : @Wb none k ↔ False := Iff.rfl
@[simp] theorem wb_dec {p : Prop} [Decidable p] {k : Kb} : @Wb (some (decide p)) k ↔ (p → k.t) ∧ (¬ p → k.f) := by
  by_cases h : p <;> simp [h]
@[simp low] theorem wb_bool {b : Bool} {k : Kb} : @Wb (some b) k ↔ (b = true → k.t) ∧ (b = false → k.f) := by
  cases b <;> simp
@[simp] theorem wb_not {b : Bool} {k : Kb} : @Wb (some (!b)) k ↔ @Wb (some b) ⟨k.f, k.t⟩ := by
  cases b <;> simp
@[simp] theorem wb_beq {α : Type} [BEq α] [LawfulBEq α] {x y : α} {k : Kb} : @Wb (some (x == y)) k ↔ (x = y → k.t) ∧ (x ≠ y → k.f) := by
  by_cases h : x = y
  · simp [h]
  · have : (x == y) = false := beq_eq_false_iff_ne.mpr h
    rw [this]
    simp [h]
@[simp] theorem wb_bne {α : Type} [BEq α] [LawfulBEq α] {x y : α} {k : Kb} : @Wb (some (x != y)) k ↔ (x ≠ y → k.t) ∧ (x = y → k.f) := by
  by_cases h : x = y
  · simp [h]
  · have : (x == y) = false := beq_eq_false_iff_ne.mpr h
    rw [bne, this]
    simp [h]
@[simp] theorem ws_some {f : Fl} {v : Env} {h : Heap} {k : Ks} : @Ws (some (f, v, h)) k ↔ k.go f v h := Iff.rfl
@[simp] theorem ws_none {k : Ks} : @Ws none k ↔ False := Iff.rfl
@[simp] theorem wp_if {p : Prop} [Decidable p] {a : α} {h : Heap} {k : Kc α} : @Wp α (if p then some (a, h) else none) k ↔ p ∧ k.go a h := by
  by_cases e : p <;> simp [e]
theorem wp_ite {p : Prop} [Decidable p] {r s : Option (α × Heap)} {k : Kc α} : @Wp α (if p then r else s) k ↔ (p → @Wp α r k) ∧ (¬ p → @Wp α s k) := by
  by_cases e : p <;> simp [e]
@[simp] theorem wo_if {p : Prop} [Decidable p] {a : α} {k : Ko α} : @Wo α (if p then some a else none) k ↔ p ∧ k.go a := by
  by_cases e : p <;> simp [e]
@[simp] theorem wp_map {o : Option β} {g : β → α × Heap} {k : Kc α} : @Wp α (o.map g) k ↔ @Wo β o ⟨fun d => k.go (g d).1 (g d).2⟩ := by
  cases o <;> exact Iff.rfl
@[simp] theorem wo_map {o : Option β} {g : β → α} {k : Ko α} : @Wo α (o.map g) k ↔ @Wo β o ⟨fun d => k.go (g d)⟩ := by
  cases o <;> exact Iff.rfl
@[simp] theorem wo_bind {o : Option β} {g : β → Option α} {k : Ko α} : @Wo α (o.bind g) k ↔ @Wo β o ⟨fun d => @Wo α (g d) k⟩ := by
  cases o <;> exact Iff.rfl
@[simp] theorem wb_map {o : Option β} {g : β → Bool} {k : Kb} : @Wb (o.map g) k ↔ @Wo β o ⟨fun d => @Wb (some (g d)) k⟩ := by
  cases o <;> exact Iff.rfl
end
section
variable {X : Cx} {v : Env} {h : Heap} {k : Kc D} {ks : Ks}
/-! expressions -/
@[simp] theorem w_loc (i : Nat) : @Wp D (evE X (.loc i) v h) k ↔ @Wo (Option D) v[i]? ⟨fun o => @Wo D o ⟨fun d => k.go d h⟩⟩ := by
  simp only [evE]
  rcases v[i]? with _ | _ | d <;> exact Iff.rfl
@[simp] theorem w_cst (d : D) : @Wp D (evE X (.cst d) v h) k ↔ k.go d h := by simp only [evE]; exact Iff.rfl
@[simp] theorem w_glb (i : Nat) : @Wp D (evE X (.glb i) v h) k ↔ @Wo D X.tab.glb[i]? ⟨fun d => k.go d h⟩ := by
  simp only [evE, wp_map]
@[simp] theorem w_bin (o : BOp) (a b : E) : @Wp D (evE X (.bin o a b) v h) k ↔ @Wp D (evE X a v h) ⟨fun x h1 => @Wp D (evE X b v h1) ⟨fun y h2 => @Wp D (binV o x y h2) k⟩⟩ := by
  simp only [evE]
  rcases evE X a v h with _ | ⟨x, h1⟩ <;> simp only [wp_some, wp_none]
  rcases evE X b v h1 with _ | ⟨y, h2⟩ <;> exact Iff.rfl
@[simp] theorem w_neg (a : E) : @Wp D (evE X (.neg a) v h) k ↔ @Wp D (evE X a v h) ⟨fun x h1 => match x with | .int i => k.go (.int (-i)) h1 | _ => False⟩ := by
  simp only [evE]
  rcases evE X a v h with _ | ⟨x, h1⟩ <;> simp only [wp_some, wp_none]
  cases x <;> exact Iff.rfl
@[simp] theorem w_not (a : E) : @Wp D (evE X (.not a) v h) k ↔ @Wp D (evE X a v h) ⟨fun x h1 => @Wo Bool (truth h1 x) ⟨fun b => k.go (.bl (!b)) h1⟩⟩ := by
  simp only [evE]
  rcases evE X a v h with _ | ⟨x, h1⟩ <;> simp only [wp_some, wp_none, wp_map]
@[simp] theorem w_cmp (o : COp) (a b : E) : @Wp D (evE X (.cmp o a b) v h) k ↔ @Wp D (evE X a v h) ⟨fun x h1 => @Wp D (evE X b v h1) ⟨fun y h2 => @Wp D (cmpE X o x y h2) k⟩⟩ := by
  simp only [evE]
  rcases evE X a v h with _ | ⟨x, h1⟩ <;> simp only [wp_some, wp_none]
  rcases evE X b v h1 with _ | ⟨y, h2⟩ <;> exact Iff.rfl
@[simp] theorem w_chain (o p : COp) (a b c : E) : @Wp D (evE X (.chain o p a b c) v h) k ↔ @Wp D (evE X a v h) ⟨fun x h1 => @Wp D (evE X b v h1) ⟨fun y h2 => @Wb (cmpV o x y h2) ⟨@Wp D (evE X c v h2) ⟨fun z h3 => @Wo Bool (cmpV p y z h3) ⟨fun b => k.go (.bl b) h3⟩⟩, k.go (.bl false) h2⟩⟩⟩ := by
  simp only [evE]
  rcases evE X a v h with _ | ⟨x, h1⟩ <;> simp only [wp_some, wp_none]
  rcases evE X b v h1 with _ | ⟨y, h2⟩ <;> simp only [wp_some, wp_none]
  rcases cmpV o x y h2 with _ | _ | _ <;> simp only [wb_true, wb_false, wb_none, wp_none, wp_some]
  rcases evE X c v h2 with _ | ⟨z, h3⟩ <;> simp only [wp_some, wp_none, wp_map]
@[simp] theorem w_and (a b : E) : @Wp D (evE X (.and a b) v h) k ↔ @Wp D (evE X a v h) ⟨fun x h1 => @Wb (truth h1 x) ⟨@Wp D (evE X b v h1) k, k.go x h1⟩⟩ := by
  simp only [evE]
  rcases evE X a v h with _ | ⟨x, h1⟩ <;> simp only [wp_some, wp_none]
  rcases truth h1 x with _ | _ | _ <;> exact Iff.rfl
@[simp] theorem w_or (a b : E) : @Wp D (evE X (.or a b) v h) k ↔ @Wp D (evE X a v h) ⟨fun x h1 => @Wb (truth h1 x) ⟨k.go x h1, @Wp D (evE X b v h1) k⟩⟩ := by
  simp only [evE]
  rcases evE X a v h with _ | ⟨x, h1⟩ <;> simp only [wp_some, wp_none]
  rcases truth h1 x with _ | _ | _ <;> exact Iff.rfl
@[simp] theorem w_ite (c a b : E) : @Wp D (evE X (.ite c a b) v h) k ↔ @Wp D (evE X c v h) ⟨fun x h1 => @Wb (truth h1 x) ⟨@Wp D (evE X a v h1) k, @Wp D (evE X b v h1) k⟩⟩ := by
  simp only [evE]
  rcases evE X c v h with _ | ⟨x, h1⟩ <;> simp only [wp_some, wp_none]
  rcases truth h1 x with _ | _ | _ <;> exact Iff.rfl
@[simp] theorem w_idx (a i : E) : @Wp D (evE X (.idx a i) v h) k ↔ @Wp D (evE X a v h) ⟨fun x h1 => @Wp D (evE X i v h1) ⟨fun y h2 => @Wo D (idxV x y h2) ⟨fun d => k.go d h2⟩⟩⟩ := by
  simp only [evE]
  rcases evE X a v h with _ | ⟨x, h1⟩ <;> simp only [wp_some, wp_none]
  rcases evE X i v h1 with _ | ⟨y, h2⟩ <;> simp only [wp_some, wp_none, wp_map]
@[simp] theorem w_slc (a : E) (lo hi : Eo) : @Wp D (evE X (.slc a lo hi) v h) k ↔ @Wp D (evE X a v h) ⟨fun x h1 => @Wp (Option Int) (evO X lo v h1) ⟨fun l h2 => @Wp (Option Int) (evO X hi v h2) ⟨fun u h3 => @Wp D (slcV x l u h3) k⟩⟩⟩ := by
  simp only [evE]
  rcases evE X a v h with _ | ⟨x, h1⟩ <;> simp only [wp_some, wp_none]
  rcases evO X lo v h1 with _ | ⟨l, h2⟩ <;> simp only [wp_some, wp_none]
  rcases evO X hi v h2 with _ | ⟨y, h3⟩ <;> exact Iff.rfl
@[simp] theorem w_ono {k : Kc (Option Int)} : @Wp (Option Int) (evO X .no v h) k ↔ k.go none h := by simp only [evO]; exact Iff.rfl
@[simp] theorem w_oyes {k : Kc (Option Int)} (e : E) : @Wp (Option Int) (evO X (.yes e) v h) k ↔ @Wp D (evE X e v h) ⟨fun x h1 => match x with | .int i => k.go (some i) h1 | _ => False⟩ := by
  simp only [evO]
  rcases evE X e v h with _ | ⟨x, h1⟩ <;> simp only [wp_some, wp_none]
  cases x <;> exact Iff.rfl
@[simp] theorem w_fld (a : E) (f : Nm) : @Wp D (evE X (.fld a f) v h) k ↔ @Wp D (evE X a v h) ⟨fun x h1 => @Wo D (fldV x f h1) ⟨fun d => k.go d h1⟩⟩ := by
  simp only [evE]
  rcases evE X a v h with _ | ⟨x, h1⟩ <;> simp only [wp_some, wp_none, wp_map]
@[simp] theorem w_tup (es : Es) : @Wp D (evE X (.tup es) v h) k ↔ @Wp (List D) (evEs X es v h) ⟨fun xs h1 => xs.length ≤ LINE ∧ k.go (.tup xs) h1⟩ := by
  simp only [evE]
  rcases evEs X es v h with _ | ⟨x, h1⟩ <;> simp only [wp_some, wp_none, wp_if]
@[simp] theorem w_lst (es : Es) : @Wp D (evE X (.lst es) v h) k ↔ @Wp (List D) (evEs X es v h) ⟨fun xs h1 => xs.length ≤ LINE ∧ k.go (.ref h1.size) (h1.new (.lst xs))⟩ := by
  simp only [evE]
  rcases evEs X es v h with _ | ⟨x, h1⟩ <;> simp only [wp_some, wp_none, wp_if]
@[simp] theorem w_esn {k : Kc (List D)} : @Wp (List D) (evEs X .nil v h) k ↔ k.go [] h := by simp only [evEs]; exact Iff.rfl
@[simp] theorem w_esc {k : Kc (List D)} (e : E) (es : Es) : @Wp (List D) (evEs X (.cons e es) v h) k ↔ @Wp D (evE X e v h) ⟨fun x h1 => @Wp (List D) (evEs X es v h1) ⟨fun xs h2 => k.go (x :: xs) h2⟩⟩ := by
  simp only [evEs]
  rcases evE X e v h with _ | ⟨x, h1⟩ <;> simp only [wp_some, wp_none]
  rcases evEs X es v h1 with _ | ⟨y, h2⟩ <;> exact Iff.rfl
@[simp] theorem w_call (f : Fn) (es : Es) (kw : List Nm) : @Wp D (evE X (.call f es kw) v h) k ↔ @Wp (List D) (evEs X es v h) ⟨fun xs h1 => @Wp D (invoke X f kw xs h1) k⟩ := by
  simp only [evE]
  rcases evEs X es v h with _ | ⟨x, h1⟩ <;> exact Iff.rfl
@[simp] theorem w_meth (o : E) (m : Nm) (es : Es) (kw : List Nm) : @Wp D (evE X (.meth o m es kw) v h) k ↔ @Wp D (evE X o v h) ⟨fun x h1 => @Wp (List D) (evEs X es v h1) ⟨fun xs h2 => kindM m x h1 = kindM m x h2 ∧ @Wp D (methV X x m kw xs h2) k⟩⟩ := by
  simp only [evE]
  rcases evE X o v h with _ | ⟨x, h1⟩ <;> simp only [wp_some, wp_none]
  rcases evEs X es v h1 with _ | ⟨y, h2⟩ <;> simp only [wp_some, wp_none]
  by_cases z : kindM m x h1 = kindM m x h2 <;> simp [z]
@[simp] theorem w_repl (o : E) (c : Nat) (t : Txt) : @Wp D (evE X (.repl o c t) v h) k ↔ @Wp D (evE X o v h) ⟨fun x h1 => match x with | .str s => s.length + (s.length + 1) * t.length ≤ LINE ∧ k.go (.str (replC c t s)) h1 | _ => False⟩ := by
  simp only [evE]
  rcases evE X o v h with _ | ⟨x, h1⟩ <;> simp only [wp_some, wp_none]
  cases x <;> simp
@[simp] theorem w_dct (es : Es) : @Wp D (evE X (.dct es) v h) k ↔ @Wp (List D) (evEs X es v (h.new (.dct []))) ⟨fun xs h1 => @Wo (List (Ky × D)) (pairsD xs) ⟨fun ps => h1.get h.size = some (.dct []) ∧ ps.length ≤ 15 ∧ k.go (.ref h.size) (h1.put h.size (.dct (dputs [] ps)))⟩⟩ := by
  simp only [evE]
  rcases evEs X es v (h.new (.dct [])) with _ | ⟨x, h1⟩ <;> simp only [wp_some, wp_none]
  rcases pairsD x with _ | ps <;> simp only [wo_some, wo_none, wp_none]
  split
  · rename_i e1 e2
    cases e1
    simp [e2]
  · rename_i n
    constructor
    · intro w; exact w.elim
    · intro w; exact (n _ rfl w.1).elim
@[simp] theorem w_comp (e : E) (t : T) (it : It) (c : Eo) (own : List Nat) : @Wp D (evE X (.comp e t it c own) v h) k ↔ @Wp Src (evI X it v h) ⟨fun src h1 => @Wo Heap (loopC src (compB X e t c (wipe v own)) h1.size (src.len h1 + 1) 0 (h1.new (.lst []))) ⟨fun h2 => k.go (.ref h1.size) h2⟩⟩ := by
  rw [evE_comp]
  rcases evI X it v h with _ | ⟨x, h1⟩ <;> simp only [wp_some, wp_none]
  rcases loopC x (compB X e t c (wipe v own)) h1.size (x.len h1 + 1) 0 (h1.new (.lst [])) with _ | h2 <;> exact Iff.rfl
/-! what is walked -/
@[simp] theorem w_ival {k : Kc Src} (e : E) : @Wp Src (evI X (.val e) v h) k ↔ @Wp D (evE X e v h) ⟨fun x h1 => @Wo Src (ofIter x h1) ⟨fun s => k.go s h1⟩⟩ := by
  simp only [evI]
  rcases evE X e v h with _ | ⟨x, h1⟩ <;> simp only [wp_some, wp_none, wp_map]
@[simp] theorem w_irange {k : Kc Src} (es : Es) : @Wp Src (evI X (.range es) v h) k ↔ @Wp (List D) (evEs X es v h) ⟨fun xs h1 => @Wo Src (rangeV xs) ⟨fun s => k.go s h1⟩⟩ := by
  simp only [evI]
  rcases evEs X es v h with _ | ⟨x, h1⟩ <;> simp only [wp_some, wp_none, wp_map]
@[simp] theorem w_ienum {k : Kc Src} (e : E) : @Wp Src (evI X (.enum e) v h) k ↔ @Wp D (evE X e v h) ⟨fun x h1 => @Wo Src (ofIter x h1) ⟨fun s => match s with | .at a => k.go (.enum (.at a)) h1 | _ => False⟩⟩ := by
  simp only [evI]
  rcases evE X e v h with _ | ⟨x, h1⟩ <;> simp only [wp_some, wp_none]
  rcases ofIter x h1 with _ | s <;> simp only [wo_some, wo_none, wp_none]
  cases s <;> exact Iff.rfl
@[simp] theorem w_izip {k : Kc Src} (a b : E) : @Wp Src (evI X (.zip a b) v h) k ↔ @Wp D (evE X a v h) ⟨fun x h1 => @Wp D (evE X b v h1) ⟨fun y h2 => @Wo Src (ofIter x h2) ⟨fun s => @Wo Src (ofIter y h2) ⟨fun t => k.go (.zip s t) h2⟩⟩⟩⟩ := by
  simp only [evI]
  rcases evE X a v h with _ | ⟨x, h1⟩ <;> simp only [wp_some, wp_none]
  rcases evE X b v h1 with _ | ⟨y, h2⟩ <;> simp only [wp_some, wp_none]
  rcases ofIter x h2 with _ | s <;> simp only [wo_some, wo_none, wp_none]
  rcases ofIter y h2 with _ | t <;> exact Iff.rfl
/-! targets -/
@[simp] theorem w_tnm {k : Kc Env} (i : Nat) (d : D) : @Wp Env (asgT X (.nm i) d v h) k ↔ i < v.length ∧ k.go (v.set i (some d)) h := by
  simp only [asgT, setLoc]
  by_cases z : i < v.length <;> simp [z]
@[simp] theorem w_ttup {k : Kc Env} (ts : Ts) (d : D) : @Wp Env (asgT X (.tup ts) d v h) k ↔ @Wo (List D) (items h d) ⟨fun xs => @Wp Env (asgTs X ts xs v h) k⟩ := by
  simp only [asgT]
  rcases items h d with _ | xs <;> exact Iff.rfl
@[simp] theorem w_tstup {k : Kc Env} (ts : Ts) (i : Nat) (d : D) : @Wp Env (asgT X (.stup ts i) d v h) k ↔ @Wo (List D) (items h d) ⟨fun xs => (ts.len ≤ xs.length ∧ xs.length ≤ LINE) ∧ @Wp Env (asgTs X ts (xs.take ts.len) v (h.new (.lst (xs.drop ts.len)))) ⟨fun v2 h2 => i < v2.length ∧ k.go (v2.set i (some (.ref h.size))) h2⟩⟩ := by
  simp only [asgT, setLoc]
  rcases items h d with _ | xs <;> simp only [wo_some, wo_none, wp_none]
  by_cases z : ts.len ≤ xs.length ∧ xs.length ≤ LINE
  · rw [if_pos z]
    simp only [z, and_self, true_and]
    rcases asgTs X ts (xs.take ts.len) v (h.new (.lst (xs.drop ts.len))) with _ | ⟨v2, h2⟩ <;> simp only [wp_some, wp_none]
    by_cases z : i < v2.length <;> simp [z]
  · rw [if_neg z]
    simp only [wp_none, z, false_and]
@[simp] theorem w_tidx {k : Kc Env} (a i : E) (d : D) : @Wp Env (asgT X (.idx a i) d v h) k ↔ @Wp D (evE X a v h) ⟨fun x h1 => @Wp D (evE X i v h1) ⟨fun y h2 => @Wo Heap (idxPut x y d h2) ⟨fun h3 => k.go v h3⟩⟩⟩ := by
  simp only [asgT]
  rcases evE X a v h with _ | ⟨x, h1⟩ <;> simp only [wp_some, wp_none]
  rcases evE X i v h1 with _ | ⟨y, h2⟩ <;> simp only [wp_some, wp_none, wp_map]
@[simp] theorem w_tfld {k : Kc Env} (a : E) (f : Nm) (d : D) : @Wp Env (asgT X (.fld a f) d v h) k ↔ @Wp D (evE X a v h) ⟨fun x h1 => @Wo Heap (fldPut x f d h1) ⟨fun h3 => k.go v h3⟩⟩ := by
  simp only [asgT]
  rcases evE X a v h with _ | ⟨x, h1⟩ <;> simp only [wp_some, wp_none, wp_map]
@[simp] theorem w_tsn {k : Kc Env} : @Wp Env (asgTs X .nil [] v h) k ↔ k.go v h := by simp only [asgTs]; exact Iff.rfl
@[simp] theorem w_tsc {k : Kc Env} (t : T) (ts : Ts) (x : D) (xs : List D) : @Wp Env (asgTs X (.cons t ts) (x :: xs) v h) k ↔ @Wp Env (asgT X t x v h) ⟨fun v2 h2 => @Wp Env (asgTs X ts xs v2 h2) k⟩ := by
  simp only [asgTs]
  rcases asgT X t x v h with _ | ⟨v2, h2⟩ <;> exact Iff.rfl
@[simp] theorem w_tan {k : Kc Env} (d : D) : @Wp Env (asgAll X .nil d v h) k ↔ k.go v h := by simp only [asgAll]; exact Iff.rfl
@[simp] theorem w_tac {k : Kc Env} (t : T) (ts : Ts) (d : D) : @Wp Env (asgAll X (.cons t ts) d v h) k ↔ @Wp Env (asgT X t d v h) ⟨fun v2 h2 => @Wp Env (asgAll X ts d v2 h2) k⟩ := by
  simp only [asgAll]
  rcases asgT X t d v h with _ | ⟨v2, h2⟩ <;> exact Iff.rfl
/-! statements -/
@[simp] theorem w_ex (e : E) : @Ws (evS X (.ex e) v h) ks ↔ @Wp D (evE X e v h) ⟨fun _ h1 => ks.go .nx v h1⟩ := by
  simp only [evS]
  rcases evE X e v h with _ | ⟨x, h1⟩ <;> exact Iff.rfl
@[simp] theorem w_asg (t : T) (e : E) : @Ws (evS X (.asg t e) v h) ks ↔ @Wp D (evE X e v h) ⟨fun x h1 => @Wp Env (asgT X t x v h1) ⟨fun v2 h2 => ks.go .nx v2 h2⟩⟩ := by
  simp only [evS]
  rcases evE X e v h with _ | ⟨x, h1⟩ <;> simp only [wp_some, wp_none, ws_none]
  rcases asgT X t x v h1 with _ | ⟨v2, h2⟩ <;> exact Iff.rfl
@[simp] theorem w_asgs (t : Ts) (e : E) : @Ws (evS X (.asgs t e) v h) ks ↔ @Wp D (evE X e v h) ⟨fun x h1 => @Wp Env (asgAll X t x v h1) ⟨fun v2 h2 => ks.go .nx v2 h2⟩⟩ := by
  simp only [evS]
  rcases evE X e v h with _ | ⟨x, h1⟩ <;> simp only [wp_some, wp_none, ws_none]
  rcases asgAll X t x v h1 with _ | ⟨v2, h2⟩ <;> exact Iff.rfl
@[simp] theorem w_augN (i : Nat) (o : BOp) (e : E) : @Ws (evS X (.aug (.nm i) o e) v h) ks ↔ @Wo (Option D) v[i]? ⟨fun w => @Wo D w ⟨fun x => @Wp D (evE X e v h) ⟨fun y h1 => @Wp D (augV o x y h1) ⟨fun z h2 => i < v.length ∧ ks.go .nx (v.set i (some z)) h2⟩⟩⟩⟩ := by
  simp only [evS, setLoc]
  rcases v[i]? with _ | _ | x <;> simp only [wo_some, wo_none, ws_none]
  rcases evE X e v h with _ | ⟨y, h1⟩ <;> simp only [wp_some, wp_none, ws_none]
  rcases augV o x y h1 with _ | ⟨z, h2⟩ <;> simp only [wp_some, wp_none, ws_none]
  by_cases z : i < v.length <;> simp [z]
@[simp] theorem w_augF (a : E) (f : Nm) (o : BOp) (e : E) : @Ws (evS X (.aug (.fld a f) o e) v h) ks ↔ @Wp D (evE X a v h) ⟨fun p h1 => @Wo D (fldV p f h1) ⟨fun x => @Wp D (evE X e v h1) ⟨fun y h2 => @Wp D (augV o x y h2) ⟨fun z h3 => @Wo Heap (fldPut p f z h3) ⟨fun h4 => ks.go .nx v h4⟩⟩⟩⟩⟩ := by
  simp only [evS]
  rcases evE X a v h with _ | ⟨p, h1⟩ <;> simp only [wp_some, wp_none, ws_none]
  rcases fldV p f h1 with _ | x <;> simp only [wo_some, wo_none, ws_none]
  rcases evE X e v h1 with _ | ⟨y, h2⟩ <;> simp only [wp_some, wp_none, ws_none]
  rcases augV o x y h2 with _ | ⟨z, h3⟩ <;> simp only [wp_some, wp_none, ws_none]
  rcases fldPut p f z h3 with _ | h4 <;> exact Iff.rfl
@[simp] theorem w_ret (e : E) : @Ws (evS X (.ret e) v h) ks ↔ @Wp D (evE X e v h) ⟨fun x h1 => ks.go (.rt x) v h1⟩ := by
  simp only [evS]
  rcases evE X e v h with _ | ⟨x, h1⟩ <;> exact Iff.rfl
@[simp] theorem w_retn : @Ws (evS X .retn v h) ks ↔ ks.go (.rt .non) v h := by simp only [evS]; exact Iff.rfl
@[simp] theorem w_pass : @Ws (evS X .pass v h) ks ↔ ks.go .nx v h := by simp only [evS]; exact Iff.rfl
@[simp] theorem w_brk : @Ws (evS X .brk v h) ks ↔ ks.go .bk v h := by simp only [evS]; exact Iff.rfl
@[simp] theorem w_cont : @Ws (evS X .cont v h) ks ↔ ks.go .ct v h := by simp only [evS]; exact Iff.rfl
@[simp] theorem w_sit (c : E) (a b : Ss) : @Ws (evS X (.ite c a b) v h) ks ↔ @Wp D (evE X c v h) ⟨fun x h1 => @Wb (truth h1 x) ⟨@Ws (evSs X a v h1) ks, @Ws (evSs X b v h1) ks⟩⟩ := by
  simp only [evS, evB]
  rcases evE X c v h with _ | ⟨x, h1⟩ <;> simp only [wp_some, wp_none, ws_none]
  rcases truth h1 x with _ | _ | _ <;> exact Iff.rfl
@[simp] theorem w_for (t : T) (it : It) (b : Ss) : @Ws (evS X (.for_ t it b) v h) ks ↔ @Wp Src (evI X it v h) ⟨fun src h1 => @Ws (loopF src (forB X t b) (src.len h1 + 1) 0 v h1) ks⟩ := by
  rw [evS_for]
  rcases evI X it v h with _ | ⟨x, h1⟩ <;> exact Iff.rfl
@[simp] theorem w_whl (c : E) (b : Ss) : @Ws (evS X (.whl c b) v h) ks ↔ @Ws (loopW (evB X c) (evSs X b) X.fuel v h) ks := by
  simp only [evS]
def Nx (P : Env → Heap → Prop) (k : Ks) (f : Fl) (v : Env) (h : Heap) : Prop := match f with
  | .nx => P v h
  | f => k.go f v h
@[simp] theorem nx_nx {P : Env → Heap → Prop} {k : Ks} : Nx P k .nx v h ↔ P v h := Iff.rfl
@[simp] theorem nx_rt {P : Env → Heap → Prop} {k : Ks} {d : D} : Nx P k (.rt d) v h ↔ k.go (.rt d) v h := Iff.rfl
@[simp] theorem nx_bk {P : Env → Heap → Prop} {k : Ks} : Nx P k .bk v h ↔ k.go .bk v h := Iff.rfl
@[simp] theorem nx_ct {P : Env → Heap → Prop} {k : Ks} : Nx P k .ct v h ↔ k.go .ct v h := Iff.rfl
@[simp] theorem w_ssn : @Ws (evSs X .nil v h) ks ↔ ks.go .nx v h := by simp only [evSs]; exact Iff.rfl
@[simp] theorem w_ssc (s : S) (ss : Ss) : @Ws (evSs X (.cons s ss) v h) ks ↔ @Ws (evS X s v h) ⟨Nx (fun v2 h2 => @Ws (evSs X ss v2 h2) ks) ks⟩ := by
  simp only [evSs]
  rcases evS X s v h with _ | ⟨f, v2, h2⟩
  · exact Iff.rfl
  · cases f <;> exact Iff.rfl
/-! loops: what was walked, what is left -/
def Lp (P : Env → Heap → Prop) (k : Ks) (f : Fl) (v : Env) (h : Heap) : Prop := match f with
  | .nx => P v h
  | .ct => P v h
  | .bk => k.go .nx v h
  | .rt d => k.go (.rt d) v h
@[simp] theorem lp_nx {P : Env → Heap → Prop} {k : Ks} : Lp P k .nx v h ↔ P v h := Iff.rfl
@[simp] theorem lp_ct {P : Env → Heap → Prop} {k : Ks} : Lp P k .ct v h ↔ P v h := Iff.rfl
@[simp] theorem lp_rt {P : Env → Heap → Prop} {k : Ks} {d : D} : Lp P k (.rt d) v h ↔ k.go (.rt d) v h := Iff.rfl
@[simp] theorem lp_bk {P : Env → Heap → Prop} {k : Ks} : Lp P k .bk v h ↔ k.go .nx v h := Iff.rfl
@[simp] theorem w_forB (t : T) (b : Ss) (x : D) : @Ws (forB X t b x v h) ks ↔ @Wp Env (asgT X t x v h) ⟨fun v2 h2 => @Ws (evSs X b v2 h2) ks⟩ := by
  unfold forB
  rcases asgT X t x v h with _ | ⟨v2, h2⟩ <;> exact Iff.rfl
theorem for_rule {src : Src} {b : D → Env → Heap → ResS} {n : Nat} (xs : List D) (P : List D → Env → Heap → Prop) (hn : n = xs.length) (hs : ∀ d v h i, P d v h → src.nxt h i = some xs[i]?)
    (p0 : P [] v h) (step : ∀ d x r v h, xs = d ++ x :: r → P d v h → @Ws (b x v h) ⟨Lp (P (d ++ [x])) ks⟩) (fin : ∀ v h, P xs v h → ks.go .nx v h) : @Ws (loopF src b (n + 1) 0 v h) ks := by
  subst hn
  have main : ∀ (m : Nat) (d r : List D) (v : Env) (h : Heap), xs = d ++ r → r.length < m → P d v h → @Ws (loopF src b m d.length v h) ks := by
    intro m
    induction m with
    | zero => intro d r v h _ l; exact absurd l (Nat.not_lt_zero _)
    | succ m ih =>
      intro d r v h e l p
      unfold loopF
      rw [hs d v h d.length p]
      cases r with
      | nil =>
        rw [List.append_nil] at e
        subst e
        simp only [List.getElem?_eq_none_iff.mpr (Nat.le_refl _)]
        exact fin v h p
      | cons x r =>
        have e1 : xs[d.length]? = some x := by subst e; simp
        rw [e1]
        dsimp only
        obtain ⟨f, v2, h2, e2, q⟩ := (step d x r v h e p).to
        rw [e2]
        have l2 : r.length < m := by simpa using l
        have ih2 := fun q => ih (d ++ [x]) r v2 h2 (by rw [e]; simp) l2 q
        rw [show (d ++ [x]).length = d.length + 1 by simp] at ih2
        cases f with
        | nx => exact ih2 q
        | ct => exact ih2 q
        | bk => exact q
        | rt y => exact q
  exact main (xs.length + 1) [] xs v h rfl (Nat.lt_succ_self _) p0
theorem while_rule {c : E} {b : Ss} {n : Nat} (P : Env → Heap → Prop) (M : Env → Heap → Nat) (p0 : P v h) (m0 : M v h < n)
    (step : ∀ v h, P v h → @Wp D (evE X c v h) ⟨fun x h1 => @Wb (truth h1 x) ⟨@Ws (evSs X b v h1) ⟨Lp (fun v2 h2 => P v2 h2 ∧ M v2 h2 < M v h) ks⟩, ks.go .nx v h1⟩⟩) : @Ws (loopW (evB X c) (evSs X b) n v h) ks := by
  induction n generalizing v h with
  | zero => exact absurd m0 (Nat.not_lt_zero _)
  | succ n ih =>
    unfold loopW
    obtain ⟨x, h1, e, w⟩ := (step v h p0).to
    unfold evB
    simp only [e]
    rcases e2 : truth h1 x with _ | _ | _
    · rw [e2] at w; exact w.elim
    · rw [e2] at w; exact w
    · rw [e2] at w
      obtain ⟨f, v2, h2, e3, q⟩ := Ws.to w
      simp only [Option.map_some, e3]
      have ih2 := fun (q : P v2 h2 ∧ M v2 h2 < M v h) => ih (v := v2) (h := h2) q.1 (by omega)
      cases f with
      | nx => exact ih2 q
      | ct => exact ih2 q
      | bk => exact q
      | rt y => exact q
@[simp] theorem w_compB {k : Kc (Option D)} (e : E) (t : T) (c : Eo) (x : D) : @Wp (Option D) (compB X e t c v x h) k ↔ @Wp Env (asgT X t x v h) ⟨fun v2 h2 => @Wp Bool (evC X c v2 h2) ⟨fun b h3 => @Wb (some b) ⟨@Wp D (evE X e v2 h3) ⟨fun y h4 => k.go (some y) h4⟩, k.go none h3⟩⟩⟩ := by
  unfold compB
  rcases asgT X t x v h with _ | ⟨v2, h2⟩ <;> simp only [wp_some, wp_none]
  rcases evC X c v2 h2 with _ | ⟨_ | _, h3⟩
  · exact Iff.rfl
  · exact Iff.rfl
  · simp only [wp_some, wb_true]
    rcases evE X e v2 h3 with _ | ⟨y, h4⟩ <;> exact Iff.rfl
@[simp] theorem w_cno {k : Kc Bool} : @Wp Bool (evC X .no v h) k ↔ k.go true h := by simp only [evC]; exact Iff.rfl
@[simp] theorem w_cyes {k : Kc Bool} (e : E) : @Wp Bool (evC X (.yes e) v h) k ↔ @Wp D (evE X e v h) ⟨fun x h1 => @Wo Bool (truth h1 x) ⟨fun b => k.go b h1⟩⟩ := by
  simp only [evC]
  rcases evE X e v h with _ | ⟨x, h1⟩ <;> simp only [wp_some, wp_none, wp_map]
/-- a comprehension: r is the new list -/
theorem comp_rule {src : Src} {f : D → Heap → Option (Option D × Heap)} {r n : Nat} {k : Ko Heap} (xs : List D) (P : List D → List D → Heap → Prop) (hn : n = xs.length) (hl : xs.length ≤ LINE) (hs : ∀ d a h i, P d a h → h.get r = some (.lst a) → src.nxt h i = some xs[i]?)
    (r0 : h.get r = some (.lst [])) (p0 : P [] [] h) (step : ∀ d x s a h, xs = d ++ x :: s → P d a h → h.get r = some (.lst a) → @Wp (Option D) (f x h) ⟨fun o h2 => h2.get r = some (.lst a) ∧ match o with | some y => P (d ++ [x]) (a ++ [y]) (h2.put r (.lst (a ++ [y]))) | none => P (d ++ [x]) a h2⟩)
    (fin : ∀ a h, P xs a h → h.get r = some (.lst a) → k.go h) : @Wo Heap (loopC src f r (n + 1) 0 h) k := by
  subst hn
  have main : ∀ (m : Nat) (d s a : List D) (h : Heap), xs = d ++ s → s.length < m → a.length ≤ d.length → P d a h → h.get r = some (.lst a) → @Wo Heap (loopC src f r m d.length h) k := by
    intro m
    induction m with
    | zero => intro d s a h _ l; exact absurd l (Nat.not_lt_zero _)
    | succ m ih =>
      intro d s a h e l la p ra
      unfold loopC
      rw [hs d a h d.length p ra]
      cases s with
      | nil =>
        rw [List.append_nil] at e
        subst e
        simp only [List.getElem?_eq_none_iff.mpr (Nat.le_refl _)]
        exact fin a h p ra
      | cons x s =>
        have e1 : xs[d.length]? = some x := by subst e; simp
        rw [e1]
        dsimp only
        obtain ⟨o, h2, e2, ra2, q⟩ := (step d x s a h e p ra).to
        rw [e2]
        have l2 : s.length < m := by simpa using l
        have el : xs.length = d.length + (s.length + 1) := by rw [e]; simp
        cases o with
        | none =>
          have := ih (d ++ [x]) s a h2 (by rw [e]; simp) l2 (by simp; omega) q ra2
          rw [show (d ++ [x]).length = d.length + 1 by simp] at this
          exact this
        | some y =>
          dsimp only
          rw [ra2]
          dsimp only
          rw [if_pos (by omega)]
          have := ih (d ++ [x]) s (a ++ [y]) _ (by rw [e]; simp) l2 (by simp; omega) q (get_put (lt_of_get ra2))
          rw [show (d ++ [x]).length = d.length + 1 by simp] at this
          exact this
  exact main (xs.length + 1) [] xs [] h rfl (Nat.lt_succ_self _) (Nat.le_refl _) p0 r0
end
/-! calls -/
theorem w_run {X : Cx} {fd : FD} {vs : List D} {h : Heap} {k : Kc D} (c : vs.length = fd.sig.args.length + fd.sig.kwo.length ∧ vs.length ≤ fd.slots) :
    @Wp D (runD X fd vs h) k ↔ @Ws (evSs X fd.body (vs.map some ++ List.replicate (fd.slots - vs.length) none) h) ⟨fun f _ h2 => match f with | .nx => k.go .non h2 | .rt d => k.go d h2 | _ => False⟩ := by
  unfold runD
  rw [if_pos c]
  rcases evSs X fd.body (vs.map some ++ List.replicate (fd.slots - vs.length) none) h with _ | ⟨f, v2, h2⟩
  · exact Iff.rfl
  · cases f <;> exact Iff.rfl
theorem w_def {tab : Tab} {fuel : Nat} {shows : Dt → Option Txt} {n i : Nat} {fd : FD} {vs : List D} {h : Heap} {k : Kc D} (e : tab.defs[i]? = some fd) (c : vs.length = fd.sig.args.length + fd.sig.kwo.length ∧ vs.length ≤ fd.slots)
    (w : @Ws (evSs ⟨tab, callK tab fuel shows n, fuel, shows⟩ fd.body (vs.map some ++ List.replicate (fd.slots - vs.length) none) h) ⟨fun f _ h2 => match f with | .nx => k.go .non h2 | .rt d => k.go d h2 | _ => False⟩) : @Wp D (callK tab fuel shows (n + 1) i vs h) k := by
  unfold callK
  rw [e]
  exact (w_run c).mpr w
theorem w_callDef {X : Cx} {i : Nat} {fd : FD} {first xs vs : List D} {kw : List Nm} {h : Heap} {k : Kc D} (e : X.tab.defs[i]? = some fd) (b : bindA fd.sig (first ++ (splitK kw xs).1) (splitK kw xs).2 = some vs) : @Wp D (callDef X i first kw xs h) k ↔ @Wp D (X.call i vs h) k := by
  unfold callDef
  rw [e]
  dsimp only
  rw [b]
/-! by what stands at an address -/
section
variable {X : Cx} {v : Env} {h h1 : Heap} {a b : Nat} {k : Kc D}
@[simp] theorem rf_len : lenV (.ref a) h = match h.get a with
    | some (.lst xs) => some xs.length
    | some (.fro xs) => some xs.length
    | some (.dct kvs) => some kvs.length
    | _ => none := rfl
@[simp] theorem rf_truth : truth h (.ref a) = match h.get a with
    | some (.lst xs) => some (!xs.isEmpty)
    | some (.fro xs) => some (!xs.isEmpty)
    | some (.dct kvs) => some (!kvs.isEmpty)
    | _ => none := rfl
@[simp] theorem rf_items : items h (.ref a) = match h.get a with
    | some (.lst xs) => some xs
    | some (.fro xs) => some xs
    | _ => none := rfl
@[simp] theorem rf_listV : listV (.ref a) h = items h (.ref a) := rfl
@[simp] theorem rf_iter : ofIter (.ref a) h = match h.get a with
    | some (.lst _) => some (.at a)
    | some (.fro _) => some (.at a)
    | _ => none := rfl
@[simp] theorem rf_slc (l u : Option Int) : slcV (.ref a) l u h = match h.get a with
    | some (.lst xs) => some (.ref h.size, h.new (.lst (cut xs l u)))
    | some (.fro xs) => some (.ref h.size, h.new (.lst (cut xs l u)))
    | _ => none := rfl
@[simp] theorem rf_idx (i : D) : idxV (.ref a) i h = match h.get a with
    | some (.dct kvs) => (keyOf i).bind (dlook kvs)
    | some (.lst xs) => match i with
      | .int i => (place xs.length i).bind fun j => xs[j]?
      | _ => none
    | some (.fro xs) => match i with
      | .int i => (place xs.length i).bind fun j => xs[j]?
      | _ => none
    | _ => none := by cases i <;> rfl
@[simp] theorem rf_fld (f : Nm) : fldV (.ref a) f h = match h.get a with
    | some (.obj _ fs) => flook fs f
    | _ => none := rfl
@[simp] theorem rf_fldPut (f : Nm) (d : D) : fldPut (.ref a) f d h = match h.get a with
    | some (.obj c fs) => if fs.length < 900 then some (h.put a (.obj c (fput fs f d))) else none
    | _ => none := rfl
@[simp] theorem rf_idxPut (i d : D) : idxPut (.ref a) i d h = match h.get a with
    | some (.lst xs) => match i with
      | .int i => match place xs.length i with
        | some j => some (h.put a (.lst (xs.set j d)))
        | none => none
      | _ => none
    | some (.dct kvs) => match keyOf i with
      | some k => if kvs.length + 1 < LINE then some (h.put a (.dct (dput kvs k d))) else none
      | none => none
    | _ => none := rfl
@[simp] theorem rf_mul (i : Int) : @Wp D (binV .mul (.ref a) (.int i) h) k ↔ @Wp D (match h.get a with
    | some (.lst xs) => if times i && decide (xs.length * i.toNat ≤ LINE) then some (.ref h.size, h.new (.lst (rep i xs))) else none
    | _ => none) k := by
  show @Wp D (match BOp.mul, h.get a with
    | .mul, some (.lst xs) => if times i && decide (xs.length * i.toNat ≤ LINE) then some (.ref h.size, h.new (.lst (rep i xs))) else none
    | _, _ => none) k ↔ _
  rcases h.get a with _ | c
  · exact Iff.rfl
  · cases c <;> exact Iff.rfl
@[simp] theorem rf_add : @Wp D (binV .add (.ref a) (.ref b) h) k ↔ @Wp D (match h.get a with
    | some (.lst xs) => match h.get b with
      | some (.lst ys) => if xs.length + ys.length ≤ LINE then some (.ref h.size, h.new (.lst (xs ++ ys))) else none
      | _ => none
    | _ => none) k := by
  show @Wp D (match BOp.add, h.get a, h.get b with
    | .add, some (.lst xs), some (.lst ys) => if xs.length + ys.length ≤ LINE then some (.ref h.size, h.new (.lst (xs ++ ys))) else none
    | _, _, _ => none) k ↔ _
  rcases h.get a with _ | c
  · exact Iff.rfl
  · cases c <;> try exact Iff.rfl
    rcases h.get b with _ | c
    · exact Iff.rfl
    · cases c <;> exact Iff.rfl
@[simp] theorem wi_mod (i j : Int) : @Wp D (binV .mod (.int i) (.int j) h) k ↔ 0 < j ∧ k.go (.int (i % j)) h := by
  show @Wp D ((if 0 < j then some (i % j) else none).map fun k => (.int k, h)) k ↔ _
  by_cases z : 0 < j <;> simp [z]
@[simp] theorem wi_div (i j : Int) : @Wp D (binV .div (.int i) (.int j) h) k ↔ (0 < j ∧ j < 1073741824) ∧ k.go (.int (i / j)) h := by
  show @Wp D ((if 0 < j ∧ j < 1073741824 then some (i / j) else none).map fun k => (.int k, h)) k ↔ _
  by_cases z : 0 < j ∧ j < 1073741824 <;> simp [z]
@[simp] theorem wi_mul (i j : Int) : @Wp D (binV .mul (.int i) (.int j) h) k ↔ mulOk i j = true ∧ k.go (.int (i * j)) h := by
  show @Wp D ((if mulOk i j then some (i * j) else none).map fun k => (.int k, h)) k ↔ _
  by_cases z : mulOk i j = true <;> simp [z]
@[simp] theorem wi_pow (i j : Int) : @Wp D (binV .pow (.int i) (.int j) h) k ↔ (0 ≤ j ∧ j ≤ 1000 ∧ i.natAbs < 2 ^ 640) ∧ k.go (.int (i ^ j.toNat)) h := by
  show @Wp D ((if 0 ≤ j ∧ j ≤ 1000 ∧ i.natAbs < 2 ^ 640 then some (i ^ j.toNat) else none).map fun k => (.int k, h)) k ↔ _
  by_cases z : 0 ≤ j ∧ j ≤ 1000 ∧ i.natAbs < 2 ^ 640
  · rw [if_pos z]; simp [z]
  · rw [if_neg z]; simp only [Option.map_none, wp_none, z, false_and]
@[simp] theorem rf_kind (m : Nm) : kindM m (.ref a) h = match h.get a with
    | some (.lst _) => 2
    | some (.dct _) => 3
    | some (.obj c fs) => match flook fs m with
      | none => c + 4
      | some _ => 0
    | _ => 0 := rfl
@[simp] theorem rf_meth (m : Nm) (ks : List Nm) (xs : List D) : methV X (.ref a) m ks xs h = match h.get a with
    | some (.obj c fs) => match flook fs m, X.tab.clss[c]? with
      | none, some cd => match mlook cd.meths m with
        | some f => callDef X f [.ref a] ks xs h
        | none => none
      | _, _ => none
    | some (.lst ys) => if ks.isEmpty then listM m a ys xs h else none
    | some (.dct kvs) => if ks.isEmpty then dctM m a kvs xs h else none
    | _ => none := rfl
@[simp] theorem st_kind (m : Nm) (s : Txt) : kindM m (.str s) h = 1 := rfl
@[simp] theorem st_meth (m : Nm) (s : Txt) (xs : List D) : methV X (.str s) m [] xs h = strM m s xs h := rfl
@[simp] theorem rf_isinst (t : Ty) : isinst t (.ref a) h = match h.get a with
    | some (.lst _) => some (t == .list)
    | some (.fro _) => some (t == .list)
    | some (.dct _) => some false
    | some (.obj c _) => some (t == .cls c)
    | none => none := rfl
@[simp] theorem rf_cmp (o : COp) (y : D) : cmpE X o (.ref a) y h = match h.get a, o with
    | some (.obj c _), .eq => match X.tab.clss[c]? with
      | some cd => match cd.eq with
        | some f => match callDef X f [.ref a] [] [y] h with
          | some (.bl b, h2) => some (.bl b, h2)
          | _ => none
        | none => none
      | none => none
    | some (.obj c _), .ne => match X.tab.clss[c]? with
      | some cd => match cd.eq with
        | some f => match callDef X f [.ref a] [] [y] h with
          | some (.bl b, h2) => some (.bl (!b), h2)
          | _ => none
        | none => none
      | none => none
    | _, _ => (cmpV o (.ref a) y h).map fun b => (.bl b, h) := rfl
/-! methods of lists, texts -/
@[simp] theorem lm_append (xs : List D) (y : D) : listM .append a xs [y] h = if xs.length < LINE then some (.non, h.put a (.lst (xs ++ [y]))) else none := rfl
@[simp] theorem lm_extT (xs ys : List D) : listM .extend a xs [.tup ys] h = if xs.length + ys.length ≤ LINE then some (.non, h.put a (.lst (xs ++ ys))) else none := rfl
@[simp] theorem lm_extR (xs : List D) : listM .extend a xs [.ref b] h = match h.get b with
    | some (.lst ys) => if xs.length + ys.length ≤ LINE then some (.non, h.put a (.lst (xs ++ ys))) else none
    | _ => none := rfl
@[simp] theorem lm_pop (xs : List D) : listM .pop a xs [] h = match xs.getLast? with
    | some y => some (y, h.put a (.lst xs.dropLast))
    | none => none := rfl
@[simp] theorem lm_popI (xs : List D) (i : Int) : listM .pop a xs [.int i] h = match place xs.length i with
    | some k => match xs[k]? with
      | some y => if times i then some (y, h.put a (.lst (xs.eraseIdx k))) else none
      | none => none
    | none => none := rfl
@[simp] theorem lm_insert (xs : List D) (i : Int) (y : D) : listM .insert a xs [.int i, y] h = if 0 ≤ i && times i && decide (xs.length < LINE) then some (.non, h.put a (.lst (xs.take i.toNat ++ y :: xs.drop i.toNat))) else none := rfl
@[simp] theorem sm_join (s : Txt) (y : D) : strM .join s [y] h = match (items h y).bind texts with
    | some ts => if (ts.map List.length).sum + ts.length * s.length ≤ LINE then some (.str (joinT s ts), h) else none
    | none => none := rfl
@[simp] theorem sm_strip (s cs : Txt) : strM .strip s [.str cs] h = some (.str (stripR cs (stripL cs s)), h) := rfl
@[simp] theorem sm_rstrip (s cs : Txt) : strM .rstrip s [.str cs] h = some (.str (stripR cs s), h) := rfl
@[simp] theorem sm_find (s : Txt) (c : Nat) : strM .find s [.str [c]] h = some (.int (findC c s), h) := rfl
@[simp] theorem sm_rfind (s : Txt) (c : Nat) : strM .rfind s [.str [c]] h = some (.int (rfindC c s), h) := rfl
@[simp] theorem sm_index (s : Txt) (c : Nat) : strM .index s [.str [c]] h = if s.contains c then some (.int (findC c s), h) else none := rfl
@[simp] theorem sm_split (s : Txt) (c : Nat) : strM .split s [.str [c]] h = if decide (c < 256) && decide (s.length + 2 ≤ LINE) then some (.ref h.size, h.new (.lst ((splitC c s).map .str))) else none := rfl
@[simp] theorem sm_starts (s t : Txt) : strM .startswith s [.str t] h = some (.bl (t.isPrefixOf s), h) := rfl
@[simp] theorem sm_ends (s t : Txt) : strM .endswith s [.str t] h = some (.bl (t.isSuffixOf s), h) := rfl
@[simp] theorem dm_get (kvs : List (Ky × D)) (q d : D) : dctM .get a kvs [q, d] h = (keyOf q).map fun q => ((dlook kvs q).getD d, h) := rfl
@[simp] theorem dm_get1 (kvs : List (Ky × D)) (q : D) : dctM .get a kvs [q] h = (keyOf q).map fun q => ((dlook kvs q).getD .non, h) := rfl
@[simp] theorem dm_update (kvs : List (Ky × D)) : dctM .update a kvs [.ref b] h = match h.get b with
    | some (.dct ws) => if decide (b ≠ a) && decide (kvs.length + ws.length ≤ LINE) then some (.non, h.put a (.dct (dputs kvs ws))) else none
    | _ => none := rfl
@[simp] theorem au_int (o : BOp) (i : Int) (y : D) : @Wp D (augV o (.int i) y h) k ↔ (o = .add ∨ o = .sub) ∧ @Wp D (binV o (.int i) y h) k := by cases o <;> simp [augV]
@[simp] theorem au_str (o : BOp) (i : Txt) (y : D) : @Wp D (augV o (.str i) y h) k ↔ (o = .add ∨ o = .sub) ∧ @Wp D (binV o (.str i) y h) k := by cases o <;> simp [augV]
@[simp] theorem au_tup (o : BOp) (i : List D) (y : D) : @Wp D (augV o (.tup i) y h) k ↔ (o = .add ∨ o = .sub) ∧ @Wp D (binV o (.tup i) y h) k := by cases o <;> simp [augV]
/-! heaps: some is what simp asks of an address -/
@[simp] theorem gt_new (c : Cell) (e : (h.get a).isSome = true) : (h.new c).get a = h.get a := by
  obtain ⟨d, e⟩ := Option.isSome_iff_exists.mp e
  rw [get_new_of e, e]
@[simp] theorem gt_put (c : Cell) (e : (h.get a).isSome = true) : (h.put a c).get a = some c := by
  obtain ⟨d, e⟩ := Option.isSome_iff_exists.mp e
  exact get_put (lt_of_get e)
@[simp] theorem gt_putN (c : Cell) (n : a ≠ b) : (h.put a c).get b = h.get b := get_put_ne n
@[simp] theorem sz_ne (e : (h.get a).isSome = true) : (a = h.size) = False := by
  obtain ⟨d, e⟩ := Option.isSome_iff_exists.mp e
  have := lt_of_get e
  simp; omega
@[simp] theorem sz_ne' (e : (h.get a).isSome = true) : (h.size = a) = False := by
  obtain ⟨d, e⟩ := Option.isSome_iff_exists.mp e
  have := lt_of_get e
  simp; omega
@[simp] theorem ex_new (c : Cell) (e : Ext h h1) : Ext h (h1.new c) := Old.trans e (Ext.new _ _)
@[simp] theorem ex_rfl : Ext h h := Old.refl h
@[simp] theorem ex_le (e : Ext h h1) : h.size ≤ h1.size := e.1
theorem Ext.put {h h1 : Heap} {a : Nat} (c : Cell) (e : Ext h h1) (l : h.size ≤ a) : Ext h (h1.put a c) := by
  refine ⟨by rw [size_put]; exact e.1, fun b lb nb => ?_⟩
  rw [get_put_ne (by omega)]
  exact e.2 b lb nb
theorem Ext.tr {h h1 h2 : Heap} (e : Ext h h1) (f : Ext h1 h2) : Ext h h2 := Old.trans e f
end
end Ev
set_option Elab.async false
set_option linter.all false
set_option maxRecDepth 100000
set_option maxHeartbeats 1000000
/-! EvWq: more of EvWp: limits, pure comprehensions. -/
namespace Ev
@[simp] theorem line_val : LINE = 16777216 := rfl
@[simp] theorem times_iff {k : Int} : times k = true ↔ -1000000000 < k ∧ k < 1000000000 := by simp [times]
@[simp] theorem bounded_iff {k : Int} : bounded k = true ↔ -(4611686018427387904) ≤ k ∧ k < 4611686018427387904 := by simp [bounded]
theorem mul_ok {i j : Int} (c : (-18446744073709551616 < i ∧ i < 18446744073709551616) ∨ (-18446744073709551616 < j ∧ j < 18446744073709551616)) : mulOk i j = true := by
  unfold mulOk small
  rcases c with c | c <;> simp [c]
theorem rep_nat {α : Type} (n : Nat) (x : α) : rep (n : Int) [x] = List.replicate n x := by
  unfold rep
  rw [Int.toNat_natCast]
  induction n with
  | zero => rfl
  | succ n ih => rw [List.replicate_succ, List.flatten_cons, ih]; rfl
theorem isInfix_one {c : Nat} {s : Txt} : isInfix [c] s = s.contains c := by
  induction s with
  | nil => rfl
  | cons x s ih =>
    unfold isInfix
    rw [ih]
    simp [List.isPrefixOf, List.contains_cons]
    by_cases e : c = x <;> simp [e]
theorem comp_ext {α : Type} {src : Src} {f : D → Heap → Option (Option D × Heap)} {r n : Nat} {h1 : Heap} {k : Ko Heap} (xs : List α) (enc : α → D) (g : α → Option D) (hr : r = h1.size) (hn : n = xs.length) (hl : xs.length ≤ LINE)
    (hs : ∀ h2 i, Ext h1 h2 → src.nxt h2 i = some (xs.map enc)[i]?)
    (hf : ∀ x h2, x ∈ xs → Ext h1 h2 → @Wp (Option D) (f (enc x) h2) ⟨fun o h3 => o = g x ∧ Ext h2 h3⟩) (fin : ∀ h2, Ext h1 h2 → h2.get h1.size = some (.lst (xs.filterMap g)) → k.go h2) : @Wo Heap (loopC src f r (n + 1) 0 (h1.new (.lst []))) k := by
  subst hr
  refine comp_rule (xs.map enc) (fun d a h2 => Ext h1 h2 ∧ a = (xs.take d.length).filterMap g) (by rw [hn, List.length_map]) (by rw [List.length_map]; exact hl) (fun d a h2 i p _ => hs h2 i p.1) (get_new _ _) ⟨Ext.new _ _, rfl⟩ (fun d x s a h2 e p ra => ?_) (fun a h2 p ra => fin h2 p.1 (by rw [ra, p.2, List.length_map, List.take_length]))
  obtain ⟨hlt, he⟩ : ∃ hlt : d.length < xs.length, enc xs[d.length] = x := by
    have h0 := congrArg (fun l => l[d.length]?) e
    simp only [List.getElem?_map, List.getElem?_append_right (Nat.le_refl _), Nat.sub_self, List.getElem?_cons_zero] at h0
    cases q : xs[d.length]? with
    | none => rw [q] at h0; cases h0
    | some y =>
      obtain ⟨z, w⟩ := List.getElem?_eq_some_iff.mp q
      rw [q] at h0
      exact ⟨z, by rw [w]; simpa using h0⟩
  obtain ⟨o, h3, e3, q1, q2⟩ := (hf xs[d.length] h2 (List.getElem_mem hlt) p.1).to
  rw [he] at e3
  refine .of e3 ⟨Ext.get q2 ra, ?_⟩
  have tk : (xs.take (d ++ [x]).length).filterMap g = (xs.take d.length).filterMap g ++ (g xs[d.length]).toList := by
    rw [List.length_append, List.length_singleton, List.take_succ, List.filterMap_append, List.getElem?_eq_getElem hlt]
    congr 1
  cases o with
  | none =>
    refine ⟨p.1.tr q2, ?_⟩
    rw [tk, ← q1, p.2]
    simp
  | some y =>
    refine ⟨Ext.put _ (p.1.tr q2) (Nat.le_refl _), ?_⟩
    rw [tk, ← q1, p.2]
    rfl
theorem at_place {α : Type} {xs : List α} {enc : α → D} {d r : List D} {x : D} (e : xs.map enc = d ++ x :: r) : ∃ hlt : d.length < xs.length, enc xs[d.length] = x ∧ xs = xs.take d.length ++ xs[d.length] :: xs.drop (d.length + 1) ∧ xs.take (d ++ [x]).length = xs.take d.length ++ [xs[d.length]] := by
  have h0 := congrArg (fun l => l[d.length]?) e
  simp only [List.getElem?_map, List.getElem?_append_right (Nat.le_refl _), Nat.sub_self, List.getElem?_cons_zero] at h0
  cases q : xs[d.length]? with
  | none => rw [q] at h0; cases h0
  | some y =>
    obtain ⟨z, w⟩ := List.getElem?_eq_some_iff.mp q
    rw [q] at h0
    refine ⟨z, by rw [w]; simpa using h0, ?_, ?_⟩
    · rw [List.getElem_cons_drop, List.take_append_drop]
    · rw [List.length_append, List.length_singleton, List.take_succ, List.getElem?_eq_getElem z]
      rfl
/-- a for over known things of one kind -/
theorem for_map {α : Type} {src : Src} {b : D → Env → Heap → ResS} {n : Nat} {v : Env} {h : Heap} {ks : Ks} (xs : List α) (enc : α → D) (P : List α → Env → Heap → Prop) (hn : n = xs.length) (hs : ∀ p v h i, P p v h → src.nxt h i = some (xs.map enc)[i]?)
    (p0 : P [] v h) (step : ∀ p x r v h, xs = p ++ x :: r → P p v h → @Ws (b (enc x) v h) ⟨Lp (P (p ++ [x])) ks⟩) (fin : ∀ v h, P xs v h → ks.go .nx v h) : @Ws (loopF src b (n + 1) 0 v h) ks := by
  refine for_rule (xs.map enc) (fun d v h => P (xs.take d.length) v h) (by rw [hn, List.length_map]) (fun d v h i p => hs _ v h i p) p0 (fun d x r v h e p => ?_) (fun v h p => fin v h (by rw [List.length_map, List.take_length] at p; exact p))
  obtain ⟨hlt, e1, e2, e3⟩ := at_place e
  have := step _ _ _ v h e2 p
  rw [e1] at this
  rw [e3]
  exact this
theorem comp_map2 {α : Type} {src : Src} {f : D → Heap → Option (Option D × Heap)} {r n : Nat} {h : Heap} {k : Ko Heap} (xs : List α) (enc : α → D) (P : List α → List D → Heap → Prop) (hn : n = xs.length) (hl : xs.length ≤ LINE) (hs : ∀ p a h i, P p a h → h.get r = some (.lst a) → src.nxt h i = some (xs.map enc)[i]?)
    (r0 : h.get r = some (.lst [])) (p0 : P [] [] h) (step : ∀ p x s a h, xs = p ++ x :: s → P p a h → h.get r = some (.lst a) → @Wp (Option D) (f (enc x) h) ⟨fun o h2 => h2.get r = some (.lst a) ∧ match o with | some y => P (p ++ [x]) (a ++ [y]) (h2.put r (.lst (a ++ [y]))) | none => P (p ++ [x]) a h2⟩)
    (fin : ∀ a h, P xs a h → h.get r = some (.lst a) → k.go h) : @Wo Heap (loopC src f r (n + 1) 0 h) k := by
  refine comp_rule (xs.map enc) (fun d a h => P (xs.take d.length) a h) (by rw [hn, List.length_map]) (by rw [List.length_map]; exact hl) (fun d a h i p ra => hs _ a h i p ra) r0 p0 (fun d x s a h e p ra => ?_) (fun a h p ra => fin a h (by rw [List.length_map, List.take_length] at p; exact p) ra)
  obtain ⟨hlt, e1, e2, e3⟩ := at_place e
  have := step _ _ _ a h e2 p ra
  rw [e1] at this
  rw [e3]
  exact this
theorem bind_plain {s : Sig} {vs : List D} (p : s.plain = true) (l : vs.length = s.args.length) : bindA s vs [] = some vs := by
  unfold bindA
  simp [p, l]
section
variable {tab : Tab} {fuel N : Nat} {shows : Dt → Option Txt}
/-- a def called by place -/
theorem call_plain {i : Nat} {fd : FD} {first xs : List D} {h : Heap} {k : Kc D} {P : D → Heap → Prop} (e : tab.defs[i]? = some fd) (p : fd.sig.plain = true) (l : (first ++ xs).length = fd.sig.args.length) (w : @Wp D (callK tab fuel shows N i (first ++ xs) h) ⟨P⟩) (m : ∀ d h', P d h' → k.go d h') : @Wp D (callDef ⟨tab, callK tab fuel shows N, fuel, shows⟩ i first [] xs h) k := by
  have sp : splitK [] xs = (xs, []) := by simp [splitK]
  refine (w_callDef (vs := first ++ xs) e (by rw [sp]; exact bind_plain p l)).mpr (w.mono m)
/-- a def called by names, with what is left out -/
theorem call_named {i : Nat} {fd : FD} {first xs vs : List D} {kw : List Nm} {h : Heap} {k : Kc D} {P : D → Heap → Prop} (e : tab.defs[i]? = some fd) (w : @Wp D (callK tab fuel shows N i vs h) ⟨P⟩) (b : bindA fd.sig (first ++ (splitK kw xs).1) (splitK kw xs).2 = some vs) (m : ∀ d h', P d h' → k.go d h') : @Wp D (callDef ⟨tab, callK tab fuel shows N, fuel, shows⟩ i first kw xs h) k :=
  (w_callDef e b).mpr (w.mono m)
/-- a new instance -/
theorem make_of {c i : Nat} {cd : CD} {fd : FD} {xs vs : List D} {kw : List Nm} {h : Heap} {k : Kc D} {P : D → Heap → Prop} (e1 : tab.clss[c]? = some cd) (e2 : cd.init = some i) (e : tab.defs[i]? = some fd) (w : @Wp D (callK tab fuel shows N i vs (h.new (.obj c []))) ⟨P⟩) (b : bindA fd.sig ([.ref h.size] ++ (splitK kw xs).1) (splitK kw xs).2 = some vs) (m : ∀ d h', P d h' → d = .non ∧ k.go (.ref h.size) h') : @Wp D (make ⟨tab, callK tab fuel shows N, fuel, shows⟩ c kw xs h) k := by
  unfold make
  simp only [e1, e2]
  have := call_named (N := N) (fuel := fuel) (shows := shows) (first := [.ref h.size]) (k := ⟨fun d h' => d = .non ∧ k.go (.ref h.size) h'⟩) e w b m
  obtain ⟨d, h2, e3, rfl, q⟩ := this.to
  rw [e3]
  exact q
end
@[simp] theorem rf_all {X : Cx} {a : Nat} {h : Heap} : invoke X .all [] [.ref a] h = ((items h (.ref a)).bind bools).map fun bs => (.bl (bs.all id), h) := rfl
@[simp] theorem rf_any {X : Cx} {a : Nat} {h : Heap} : invoke X .any [] [.ref a] h = ((items h (.ref a)).bind bools).map fun bs => (.bl (bs.any id), h) := rfl
@[simp] theorem rf_sum {X : Cx} {a : Nat} {h : Heap} : invoke X .sum [] [.ref a] h = ((items h (.ref a)).bind intsL).map fun ns => (.int ns.sum, h) := rfl
@[simp] theorem rf_min {X : Cx} {a : Nat} {h : Heap} : invoke X .min [] [.ref a] h = match (items h (.ref a)).bind intsL with
    | some (x :: r) => some (.int (minL x r), h)
    | _ => none := rfl
@[simp] theorem rf_max {X : Cx} {a : Nat} {h : Heap} : invoke X .max [] [.ref a] h = match (items h (.ref a)).bind intsL with
    | some (x :: r) => some (.int (maxL x r), h)
    | _ => none := rfl
@[simp] theorem bools_m {α : Type} (g : α → Bool) : ∀ xs : List α, bools (xs.map fun x => .bl (g x)) = some (xs.map g)
  | [] => rfl
  | x :: xs => by simp [bools, bools_m g xs]
@[simp] theorem ints_m {α : Type} (g : α → Int) : ∀ xs : List α, intsL (xs.map fun x => .int (g x)) = some (xs.map g)
  | [] => rfl
  | x :: xs => by simp [intsL, ints_m g xs]
@[simp] theorem texts_m {α : Type} (g : α → Txt) : ∀ xs : List α, texts (xs.map fun x => .str (g x)) = some (xs.map g)
  | [] => rfl
  | x :: xs => by simp [texts, texts_m g xs]
/-- a comprehension over known things that makes nothing else -/
theorem comp_fix {f : D → Heap → Option (Option D × Heap)} {h h1 : Heap} {k : Ko Heap} (xs : List D) (g : D → Option D) (hl : xs.length ≤ LINE)
    (hf : ∀ x h2, x ∈ xs → Ext h1 h2 → @Wp (Option D) (f x h2) ⟨fun o h3 => o = g x ∧ Ext h2 h3⟩) (fin : ∀ h2, Ext h1 h2 → h2.get h1.size = some (.lst (xs.filterMap g)) → k.go h2) : @Wo Heap (loopC (.fix xs) f h1.size (Src.len h (.fix xs) + 1) 0 (h1.new (.lst []))) k :=
  comp_ext xs id g rfl rfl hl (fun h2 i _ => by simp [Src.nxt]) hf fin
/-- .. over a list -/
theorem comp_at {f : D → Heap → Option (Option D × Heap)} {h1 : Heap} {k : Ko Heap} {a : Nat} (xs : List D) (g : D → Option D) (ga : h1.get a = some (.lst xs)) (hl : xs.length ≤ LINE)
    (hf : ∀ x h2, x ∈ xs → Ext h1 h2 → @Wp (Option D) (f x h2) ⟨fun o h3 => o = g x ∧ Ext h2 h3⟩) (fin : ∀ h2, Ext h1 h2 → h2.get h1.size = some (.lst (xs.filterMap g)) → k.go h2) : @Wo Heap (loopC (.at a) f h1.size (Src.len h1 (.at a) + 1) 0 (h1.new (.lst []))) k :=
  comp_ext xs id g rfl (by simp [Src.len, ga]) hl (fun h2 i x => by simp [Src.nxt, Ext.get x ga]) hf fin
theorem Old.put {A : Nat → Prop} {h h1 : Heap} {a : Nat} (c : Cell) (o : Old A h h1) (m : A a ∨ h.size ≤ a) : Old A h (h1.put a c) := by
  refine ⟨by rw [size_put]; exact o.1, fun b lb nb => ?_⟩
  rw [get_put_ne (by rintro rfl; rcases m with m | m; exact nb m; omega)]
  exact o.2 b lb nb
theorem Old.new {A : Nat → Prop} {h h1 : Heap} (c : Cell) (o : Old A h h1) : Old A h (h1.new c) := Old.trans o ((Ext.new _ _).imp fun _ _ z => z.elim)
theorem Ext.old {A : Nat → Prop} {h h1 : Heap} (e : Ext h h1) : Old A h h1 := Old.imp e fun _ _ z => z.elim
@[simp] theorem put_put (h : Heap) (a : Nat) (c d : Cell) : (h.put a c).put a d = h.put a d := by
  simp [Heap.put]
theorem upto_nat (m : Nat) : upto m 0 = (List.range m).map fun (i : Nat) => D.int (i : Int) := by
  unfold upto
  simp
theorem mem_upto {m : Nat} {x : D} (h : x ∈ upto m 0) : ∃ k : Nat, k < m ∧ x = .int k := by
  rw [upto_nat] at h
  obtain ⟨k, hk, e⟩ := List.mem_map.mp h
  exact ⟨k, List.mem_range.mp hk, e.symm⟩
theorem fm_map {α β : Type} (g : α → β) (xs : List α) : xs.filterMap (fun x => some (g x)) = xs.map g := filterMap_some g xs
/-- a for over known things; what holds ahead of each turn -/
theorem for_fix {b : D → Env → Heap → ResS} {v : Env} {h0 h : Heap} {ks : Ks} (xs : List D) (P : Env → Heap → Prop) (p0 : P v h) (step : ∀ x v h, x ∈ xs → P v h → @Ws (b x v h) ⟨Lp P ks⟩) (fin : ∀ v h, P v h → ks.go .nx v h) : @Ws (loopF (.fix xs) b (Src.len h0 (.fix xs) + 1) 0 v h) ks :=
  for_rule xs (fun _ v h => P v h) rfl (fun d v h i _ => rfl) p0 (fun d x r v h e p => step x v h (by rw [e]; simp) p) fin
end Ev
set_option Elab.async false
set_option linter.all false
set_option maxRecDepth 100000
/-! EvProg: the program's defs for the evaluator. -/
namespace Pg
open Ev
def b_is_sign : Ss := (.cons (.ite (.cmp .isin (.loc 0) (.tup (.cons (.cst (.str [10])) (.cons (.cst (.str [9])) .nil))))
  (.cons (.ret (.cst (.bl true)))
  .nil)
  .nil)
  (.cons (.ret (.and (.chain .le .le (.glb 2) (.call .ord (.cons (.loc 0) .nil) []) (.glb 6)) (.cmp .ne (.call .ord (.cons (.loc 0) .nil) []) (.glb 7))))
  .nil))
/-- 0 -/
def f_is_sign : FD := ⟨{ plain := true, args := [.self] }, 1, b_is_sign⟩
def b_is_number : Ss := (.cons (.ret (.and (.call (.isinst .int) (.cons (.loc 0) .nil) []) (.and (.not (.call (.isinst .bool) (.cons (.loc 0) .nil) [])) (.chain .le .le (.loc 1) (.loc 0) (.loc 2)))))
  .nil)
/-- 1 -/
def f_is_number : FD := ⟨{ plain := true, args := [.self, .self, .self] }, 3, b_is_number⟩
def b_are_unlike : Ss := (.cons (.ret (.and (.call .all (.cons (.comp (.call (.df 0) (.cons (.loc 1) .nil) []) (.nm 1) (.val (.loc 0)) .no [1]) .nil) []) (.cmp .eq (.call .lenset (.cons (.loc 0) .nil) []) (.call .len (.cons (.loc 0) .nil) []))))
  .nil)
/-- 2 -/
def f_are_unlike : FD := ⟨{ plain := true, args := [.self] }, 2, b_are_unlike⟩
def b_is_wide : Ss := (.cons (.ite (.or (.not (.call (.isinst .str) (.cons (.loc 0) .nil) [])) (.not (.call (.df 2) (.cons (.loc 0) .nil) [])))
  (.cons (.ret (.cst (.bl false)))
  .nil)
  .nil)
  (.cons (.ret (.not (.call .any (.cons (.comp (.cmp .isin (.loc 1) (.tup (.cons (.cst (.str [10])) (.cons (.cst (.str [9])) (.cons (.cst (.str [32])) .nil))))) (.nm 1) (.val (.loc 0)) .no [1]) .nil) [])))
  .nil))
/-- 3 -/
def f_is_wide : FD := ⟨{ plain := true, args := [.self] }, 2, b_is_wide⟩
def b_are_marks : Ss := (.cons (.ite (.or (.not (.call (.isinst .str) (.cons (.loc 0) .nil) [])) (.or (.cmp .ne (.call .len (.cons (.loc 0) .nil) []) (.call .len (.cons (.glb 0) .nil) [])) (.cmp .isin (.cst (.str [10])) (.loc 0))))
  (.cons (.ret (.cst (.bl false)))
  .nil)
  .nil)
  (.cons (.ret (.call (.df 2) (.cons (.repl (.loc 0) 32 []) .nil) []))
  .nil))
/-- 4 -/
def f_are_marks : FD := ⟨{ plain := true, args := [.self] }, 1, b_are_marks⟩
def b_wrong_number : Ss := (.cons (.ite (.not (.call (.df 1) (.cons (.loc 0) (.cons (.cst (.int 0)) (.cons (.glb 8) .nil))) []))
  (.cons (.ret (.cst (.str [108, 101, 97, 115, 116])))
  .nil)
  .nil)
  (.cons (.ite (.not (.call (.df 1) (.cons (.loc 1) (.cons (.cst (.int 0)) (.cons (.glb 8) .nil))) []))
  (.cons (.ret (.cst (.str [112, 97, 117, 115, 101])))
  .nil)
  .nil)
  (.cons (.ite (.not (.call (.df 1) (.cons (.loc 2) (.cons (.cst (.int 1)) (.cons (.glb 8) .nil))) []))
  (.cons (.ret (.cst (.str [114, 111, 111, 109])))
  .nil)
  .nil)
  (.cons (.ite (.not (.call (.df 1) (.cons (.loc 3) (.cons (.cst (.int 1)) (.cons (.loc 2) .nil))) []))
  (.cons (.ret (.cst (.str [104, 105, 103, 104])))
  .nil)
  .nil)
  (.cons (.ite (.not (.call (.df 1) (.cons (.loc 4) (.cons (.cst (.int 0)) (.cons (.bin .sub (.loc 3) (.cst (.int 1))) .nil))) []))
  (.cons (.ret (.cst (.str [108, 111, 119])))
  .nil)
  .nil)
  (.cons (.ret (.ite (.call (.df 1) (.cons (.loc 5) (.cons (.cst (.int 1)) (.cons (.glb 9) .nil))) []) (.cst .non) (.cst (.str [116, 97, 98]))))
  .nil))))))
/-- 5 -/
def f_wrong_number : FD := ⟨{ plain := true, args := [.self, .self, .self, .self, .self, .self] }, 6, b_wrong_number⟩
def b_all_of : Ss := (.cons (.asg (.nm 1) (.tup (.cons (.fld (.loc 0) .lines) (.cons (.fld (.loc 0) .echo) (.cons (.fld (.loc 0) .signals) (.cons (.fld (.loc 0) .flow) (.cons (.fld (.loc 0) .flush) .nil)))))))
  (.cons (.ret (.bin .add (.loc 1) (.tup (.cons (.fld (.loc 0) .least) (.cons (.fld (.loc 0) .pause) (.cons (.fld (.loc 0) .room) (.cons (.fld (.loc 0) .high) (.cons (.fld (.loc 0) .low) (.cons (.fld (.loc 0) .tab) (.cons (.fld (.loc 0) .wide) (.cons (.fld (.loc 0) .marks) .nil)))))))))))
  .nil))
/-- 6 -/
def f_all_of : FD := ⟨{ plain := true, args := [.self] }, 2, b_all_of⟩
def b_Modes_init : Ss := (.cons (.asg (.nm 14) (.tup (.cons (.tup (.cons (.cst (.str [108, 105, 110, 101, 115])) (.cons (.loc 1) .nil))) (.cons (.tup (.cons (.cst (.str [101, 99, 104, 111])) (.cons (.loc 2) .nil))) (.cons (.tup (.cons (.cst (.str [115, 105, 103, 110, 97, 108, 115])) (.cons (.loc 3) .nil))) (.cons (.tup (.cons (.cst (.str [102, 108, 111, 119])) (.cons (.loc 4) .nil))) (.cons (.tup (.cons (.cst (.str [102, 108, 117, 115, 104])) (.cons (.loc 5) .nil))) .nil)))))))
  (.cons (.asg (.nm 15) (.comp (.loc 17) (.tup (.cons (.nm 17) (.cons (.nm 18) .nil))) (.val (.loc 14)) (.yes (.not (.call (.isinst .bool) (.cons (.loc 18) .nil) []))) [17, 18]))
  (.cons (.asg (.nm 16) (.call (.df 5) (.cons (.loc 6) (.cons (.loc 7) (.cons (.loc 8) (.cons (.loc 9) (.cons (.loc 10) (.cons (.loc 11) .nil)))))) []))
  (.cons (.asg (.nm 15) (.bin .add (.loc 15) (.comp (.loc 17) (.nm 17) (.val (.lst (.cons (.loc 16) .nil))) (.yes (.cmp .notn (.loc 17) (.cst .non))) [17])))
  (.cons (.asg (.nm 15) (.bin .add (.bin .add (.loc 15) (.bin .mul (.lst (.cons (.cst (.str [119, 105, 100, 101])) .nil)) (.call .int (.cons (.not (.call (.df 3) (.cons (.loc 12) .nil) [])) .nil) []))) (.bin .mul (.lst (.cons (.cst (.str [109, 97, 114, 107, 115])) .nil)) (.call .int (.cons (.not (.call (.df 4) (.cons (.loc 13) .nil) [])) .nil) []))))
  (.cons (.ite (.cmp .ne (.loc 15) (.lst .nil))
  (.cons .never
  .nil)
  .nil)
  (.cons (.asg (.fld (.loc 0) .lines) (.loc 1))
  (.cons (.asg (.fld (.loc 0) .echo) (.loc 2))
  (.cons (.asg (.fld (.loc 0) .signals) (.loc 3))
  (.cons (.asg (.fld (.loc 0) .flow) (.loc 4))
  (.cons (.asg (.fld (.loc 0) .flush) (.loc 5))
  (.cons (.asg (.fld (.loc 0) .least) (.loc 6))
  (.cons (.asg (.fld (.loc 0) .pause) (.loc 7))
  (.cons (.asg (.fld (.loc 0) .room) (.loc 8))
  (.cons (.asg (.fld (.loc 0) .high) (.loc 9))
  (.cons (.asg (.fld (.loc 0) .low) (.loc 10))
  (.cons (.asg (.fld (.loc 0) .tab) (.loc 11))
  (.cons (.asg (.fld (.loc 0) .wide) (.loc 12))
  (.cons (.asg (.fld (.loc 0) .marks) (.loc 13))
  .nil)))))))))))))))))))
/-- 7 -/
def f_Modes_init : FD := ⟨{ args := [.self], kwo := [.lines, .echo, .signals, .flow, .flush, .least, .pause, .room, .high, .low, .tab, .wide, .marks], dfl := [], kwd := [(.lines, (.bl true)), (.echo, (.bl true)), (.signals, (.bl true)), (.flow, (.bl true)), (.flush, (.bl true)), (.least, (.int 1)), (.pause, (.int 0)), (.room, (.int 32)), (.high, (.int 24)), (.low, (.int 8)), (.tab, (.int 8)), (.wide, (.str [])), (.marks, (.str [35, 64, 42, 94, 33, 40, 41, 60, 62, 38]))] }, 19, b_Modes_init⟩
def b_Modes_eq : Ss := (.cons (.ret (.and (.call (.isinst (.cls 0)) (.cons (.loc 1) .nil) []) (.cmp .eq (.call (.df 6) (.cons (.loc 0) .nil) []) (.call (.df 6) (.cons (.loc 1) .nil) []))))
  .nil)
/-- 8 -/
def f_Modes_eq : FD := ⟨{ plain := true, args := [.self, .self] }, 2, b_Modes_eq⟩
def b_Modes_str : Ss := (.cons (.asg (.nm 1) (.lst (.cons (.ite (.fld (.loc 0) .lines) (.cst (.str [108, 105, 110, 101, 115])) (.cst (.str [114, 97, 119]))) .nil)))
  (.cons (.for_ (.tup (.cons (.nm 2) (.cons (.nm 3) .nil))) (.val (.tup (.cons (.tup (.cons (.cst (.str [101, 99, 104, 111])) (.cons (.fld (.loc 0) .echo) .nil))) (.cons (.tup (.cons (.cst (.str [115, 105, 103, 110, 97, 108, 115])) (.cons (.fld (.loc 0) .signals) .nil))) (.cons (.tup (.cons (.cst (.str [102, 108, 111, 119])) (.cons (.fld (.loc 0) .flow) .nil))) (.cons (.tup (.cons (.cst (.str [102, 108, 117, 115, 104])) (.cons (.fld (.loc 0) .flush) .nil))) .nil))))))
  (.cons (.asg (.nm 1) (.bin .add (.loc 1) (.lst (.cons (.loc 2) (.cons (.ite (.loc 3) (.cst (.str [121, 101, 115])) (.cst (.str [110, 111]))) .nil)))))
  .nil))
  (.cons (.asg (.nm 1) (.bin .add (.loc 1) (.lst (.cons (.cst (.str [108, 101, 97, 115, 116])) (.cons (.call .str (.cons (.fld (.loc 0) .least) .nil) []) (.cons (.cst (.str [112, 97, 117, 115, 101])) (.cons (.call .str (.cons (.fld (.loc 0) .pause) .nil) []) (.cons (.cst (.str [114, 111, 111, 109])) (.cons (.call .str (.cons (.fld (.loc 0) .room) .nil) []) .nil)))))))))
  (.cons (.asg (.nm 1) (.bin .add (.loc 1) (.lst (.cons (.cst (.str [104, 105, 103, 104])) (.cons (.call .str (.cons (.fld (.loc 0) .high) .nil) []) (.cons (.cst (.str [108, 111, 119])) (.cons (.call .str (.cons (.fld (.loc 0) .low) .nil) []) (.cons (.cst (.str [116, 97, 98])) (.cons (.call .str (.cons (.fld (.loc 0) .tab) .nil) []) .nil)))))))))
  (.cons (.asg (.nm 1) (.bin .add (.loc 1) (.lst (.cons (.cst (.str [119, 105, 100, 101])) (.cons (.ite (.cmp .ne (.fld (.loc 0) .wide) (.cst (.str []))) (.fld (.loc 0) .wide) (.cst (.str [110, 111, 110, 101]))) .nil)))))
  (.cons (.for_ (.tup (.cons (.nm 4) (.cons (.nm 5) .nil))) (.zip (.glb 0) (.fld (.loc 0) .marks))
  (.cons (.asg (.nm 1) (.bin .add (.loc 1) (.lst (.cons (.loc 4) (.cons (.meth (.dct (.cons (.glb 5) (.cons (.cst (.str [110, 111, 110, 101])) (.cons (.cst (.str [9])) (.cons (.cst (.str [84, 65, 66])) .nil))))) .get (.cons (.loc 5) (.cons (.loc 5) .nil)) []) .nil)))))
  .nil))
  (.cons (.ret (.meth (.cst (.str [32])) .join (.cons (.loc 1) .nil) []))
  .nil)))))))
/-- 9 -/
def f_Modes_str : FD := ⟨{ plain := true, args := [.self] }, 6, b_Modes_str⟩
def b_Modes_repr : Ss := (.cons (.asg (.nm 1) (.call .str (.cons (.loc 0) .nil) []))
  (.cons .never
  .nil))
/-- 10 -/
def f_Modes_repr : FD := ⟨{ plain := true, args := [.self] }, 2, b_Modes_repr⟩
def b_Modes_key : Ss := (.cons (.for_ (.tup (.cons (.nm 2) (.cons (.nm 3) .nil))) (.zip (.glb 0) (.fld (.loc 0) .marks))
  (.cons (.ite (.cmp .eq (.loc 2) (.loc 1))
  (.cons (.ret (.ite (.cmp .eq (.loc 3) (.glb 5)) (.cst .non) (.loc 3)))
  .nil)
  .nil)
  .nil))
  (.cons .never
  .nil))
/-- 11 -/
def f_Modes_key : FD := ⟨{ args := [.self, .name], kwo := [], dfl := [], kwd := [] }, 4, b_Modes_key⟩
def b_Modes_name_of : Ss := (.cons (.for_ (.tup (.cons (.nm 2) (.cons (.nm 3) .nil))) (.zip (.glb 0) (.fld (.loc 0) .marks))
  (.cons (.ite (.and (.cmp .eq (.loc 3) (.loc 1)) (.cmp .ne (.loc 3) (.glb 5)))
  (.cons (.ret (.loc 2))
  .nil)
  .nil)
  .nil))
  (.cons (.ret (.cst .non))
  .nil))
/-- 12 -/
def f_Modes_name_of : FD := ⟨{ args := [.self, .sign], kwo := [], dfl := [], kwd := [] }, 4, b_Modes_name_of⟩
def b_number_of : Ss := (.cons (.ite (.or (.not (.chain .le .le (.cst (.int 1)) (.call .len (.cons (.loc 0) .nil) []) (.glb 11))) (.cmp .ne (.meth (.loc 0) .strip (.cons (.glb 10) .nil) []) (.cst (.str []))))
  (.cons (.ret (.cst .non))
  .nil)
  .nil)
  (.cons (.ret (.ite (.and (.cmp .eq (.idx (.loc 0) (.cst (.int 0))) (.cst (.str [48]))) (.cmp .ne (.loc 0) (.cst (.str [48])))) (.cst .non) (.call .int (.cons (.loc 0) .nil) [])))
  .nil))
/-- 13 -/
def f_number_of : FD := ⟨{ plain := true, args := [.self] }, 1, b_number_of⟩
def b_mark_of : Ss := (.cons (.ite (.cmp .isin (.loc 0) (.tup (.cons (.cst (.str [110, 111, 110, 101])) (.cons (.cst (.str [84, 65, 66])) .nil))))
  (.cons (.ret (.idx (.dct (.cons (.cst (.str [110, 111, 110, 101])) (.cons (.glb 5) (.cons (.cst (.str [84, 65, 66])) (.cons (.cst (.str [9])) .nil))))) (.loc 0)))
  .nil)
  .nil)
  (.cons (.ret (.ite (.and (.cmp .eq (.call .len (.cons (.loc 0) .nil) []) (.cst (.int 1))) (.call (.df 0) (.cons (.loc 0) .nil) [])) (.loc 0) (.cst .non)))
  .nil))
/-- 14 -/
def f_mark_of : FD := ⟨{ plain := true, args := [.self] }, 1, b_mark_of⟩
def b_thing_of : Ss := (.cons (.ite (.cmp .isin (.loc 0) (.glb 12))
  (.cons .never
  .nil)
  .nil)
  (.cons (.ite (.cmp .isin (.loc 0) (.glb 13))
  (.cons (.ret (.call (.df 13) (.cons (.loc 1) .nil) []))
  .nil)
  .nil)
  (.cons (.ite (.and (.cmp .eq (.loc 0) (.cst (.str [119, 105, 100, 101]))) (.cmp .ne (.loc 1) (.cst (.str []))))
  (.cons (.ret (.ite (.cmp .eq (.loc 1) (.cst (.str [110, 111, 110, 101]))) (.cst (.str [])) (.loc 1)))
  .nil)
  .nil)
  (.cons (.ret (.ite (.cmp .isin (.loc 0) (.glb 0)) (.call (.df 14) (.cons (.loc 1) .nil) []) (.cst .non)))
  .nil))))
/-- 15 -/
def f_thing_of : FD := ⟨{ plain := true, args := [.self, .self] }, 2, b_thing_of⟩
def b_told_by : Ss := (.cons (.asg (.tup (.cons (.nm 1) (.cons (.nm 2) .nil))) (.tup (.cons (.dct .nil) (.cons (.cst (.int 0)) .nil))))
  (.cons (.whl (.cmp .lt (.loc 2) (.call .len (.cons (.loc 0) .nil) []))
  (.cons .never
  (.cons (.ite (.cmp .notn (.loc 4) (.cst .non))
  (.cons (.asg (.nm 3) (.cst (.str [108, 105, 110, 101, 115])))
  .nil)
  (.cons (.ite (.cmp .lt (.loc 2) (.call .len (.cons (.loc 0) .nil) []))
  (.cons (.asg (.tup (.cons (.nm 4) (.cons (.nm 2) .nil))) (.tup (.cons (.call (.df 15) (.cons (.loc 3) (.cons (.idx (.loc 0) (.loc 2)) .nil)) []) (.cons (.bin .add (.loc 2) (.cst (.int 1))) .nil))))
  .nil)
  .nil)
  .nil))
  (.cons (.ite (.or (.cmp .isn (.loc 4) (.cst .non)) (.cmp .isin (.loc 3) (.loc 1)))
  (.cons (.ret (.cst .non))
  .nil)
  .nil)
  (.cons (.asg (.idx (.loc 1) (.loc 3)) (.loc 4))
  .nil)))))
  (.cons (.ret (.loc 1))
  .nil)))
/-- 16 -/
def f_told_by : FD := ⟨{ plain := true, args := [.self] }, 5, b_told_by⟩
def b_changed : Ss := (.cons (.asg (.nm 2) (.cst .non))
  (.cons (.ite (.call (.isinst .str) (.cons (.loc 1) .nil) [])
  (.cons (.asg (.nm 2) (.ite (.cmp .ne (.loc 1) (.cst (.str []))) (.call (.df 16) (.cons (.meth (.loc 1) .split (.cons (.cst (.str [32])) .nil) []) .nil) []) (.dct .nil)))
  .nil)
  .nil)
  (.cons (.ite (.cmp .isn (.loc 2) (.cst .non))
  (.cons .never
  .nil)
  .nil)
  (.cons (.asg (.nm 3) (.meth (.cst (.str [])) .join (.cons (.comp (.meth (.loc 2) .get (.cons (.loc 4) (.cons (.loc 5) .nil)) []) (.tup (.cons (.nm 4) (.cons (.nm 5) .nil))) (.zip (.glb 0) (.fld (.loc 0) .marks)) .no [4, 5]) .nil) []))
  (.cons (.ret (.call (.cl 0) (.cons (.meth (.loc 2) .get (.cons (.cst (.str [108, 105, 110, 101, 115])) (.cons (.fld (.loc 0) .lines) .nil)) []) (.cons (.meth (.loc 2) .get (.cons (.cst (.str [101, 99, 104, 111])) (.cons (.fld (.loc 0) .echo) .nil)) []) (.cons (.meth (.loc 2) .get (.cons (.cst (.str [115, 105, 103, 110, 97, 108, 115])) (.cons (.fld (.loc 0) .signals) .nil)) []) (.cons (.meth (.loc 2) .get (.cons (.cst (.str [102, 108, 111, 119])) (.cons (.fld (.loc 0) .flow) .nil)) []) (.cons (.meth (.loc 2) .get (.cons (.cst (.str [102, 108, 117, 115, 104])) (.cons (.fld (.loc 0) .flush) .nil)) []) (.cons (.meth (.loc 2) .get (.cons (.cst (.str [108, 101, 97, 115, 116])) (.cons (.fld (.loc 0) .least) .nil)) []) (.cons (.meth (.loc 2) .get (.cons (.cst (.str [112, 97, 117, 115, 101])) (.cons (.fld (.loc 0) .pause) .nil)) []) (.cons (.meth (.loc 2) .get (.cons (.cst (.str [114, 111, 111, 109])) (.cons (.fld (.loc 0) .room) .nil)) []) (.cons (.meth (.loc 2) .get (.cons (.cst (.str [104, 105, 103, 104])) (.cons (.fld (.loc 0) .high) .nil)) []) (.cons (.meth (.loc 2) .get (.cons (.cst (.str [108, 111, 119])) (.cons (.fld (.loc 0) .low) .nil)) []) (.cons (.meth (.loc 2) .get (.cons (.cst (.str [116, 97, 98])) (.cons (.fld (.loc 0) .tab) .nil)) []) (.cons (.meth (.loc 2) .get (.cons (.cst (.str [119, 105, 100, 101])) (.cons (.fld (.loc 0) .wide) .nil)) []) (.cons (.loc 3) .nil))))))))))))) [.lines, .echo, .signals, .flow, .flush, .least, .pause, .room, .high, .low, .tab, .wide, .marks]))
  .nil)))))
/-- 17 -/
def f_changed : FD := ⟨{ args := [.modes, .text], kwo := [], dfl := [], kwd := [] }, 6, b_changed⟩
def b_word_begin : Ss := (.cons (.asg (.nm 1) (.call .len (.cons (.loc 0) .nil) []))
  (.cons (.whl (.and (.cmp .gt (.loc 1) (.cst (.int 0))) (.cmp .eq (.idx (.loc 0) (.bin .sub (.loc 1) (.cst (.int 1)))) (.glb 5)))
  (.cons (.aug (.nm 1) .sub (.cst (.int 1)))
  .nil))
  (.cons (.whl (.and (.cmp .gt (.loc 1) (.cst (.int 0))) (.cmp .ne (.idx (.loc 0) (.bin .sub (.loc 1) (.cst (.int 1)))) (.glb 5)))
  (.cons (.aug (.nm 1) .sub (.cst (.int 1)))
  .nil))
  (.cons (.ret (.loc 1))
  .nil))))
/-- 18 -/
def f_word_begin : FD := ⟨{ plain := true, args := [.self] }, 2, b_word_begin⟩
def b_edited : Ss := (.cons (.asg (.nm 3) (.meth (.loc 0) .name_of (.cons (.loc 2) .nil) []))
  (.cons (.ite (.cmp .eq (.loc 3) (.cst (.str [101, 114, 97, 115, 101])))
  (.cons (.ret (.slc (.loc 1) .no (.yes (.neg (.cst (.int 1))))))
  .nil)
  .nil)
  (.cons (.ite (.cmp .eq (.loc 3) (.cst (.str [107, 105, 108, 108])))
  (.cons (.ret (.tup .nil))
  .nil)
  .nil)
  (.cons (.ite (.cmp .eq (.loc 3) (.cst (.str [119, 111, 114, 100])))
  (.cons (.ret (.slc (.loc 1) .no (.yes (.call (.df 18) (.cons (.loc 1) .nil) []))))
  .nil)
  .nil)
  (.cons (.ret (.ite (.cmp .eq (.loc 3) (.cst (.str [97, 103, 97, 105, 110]))) (.loc 1) (.bin .add (.loc 1) (.tup (.cons (.loc 2) .nil)))))
  .nil)))))
/-- 19 -/
def f_edited : FD := ⟨{ args := [.modes, .line, .sign], kwo := [], dfl := [], kwd := [] }, 4, b_edited⟩
def b_taken_back : Ss := (.cons (.ite (.cmp .isin (.meth (.loc 0) .name_of (.cons (.loc 2) .nil) []) (.glb 14))
  (.cons (.ret (.bin .sub (.call .len (.cons (.loc 1) .nil) []) (.call .len (.cons (.call (.df 19) (.cons (.loc 0) (.cons (.loc 1) (.cons (.loc 2) .nil))) []) .nil) [])))
  .nil)
  .nil)
  (.cons (.ret (.cst (.int 0)))
  .nil))
/-- 20 -/
def f_taken_back : FD := ⟨{ args := [.modes, .line, .sign], kwo := [], dfl := [], kwd := [] }, 3, b_taken_back⟩
def b_shown : Ss := (.cons (.ret (.ite (.cmp .eq (.loc 0) (.cst (.str [10]))) (.cst (.str [94, 74])) (.loc 0)))
  .nil)
/-- 21 -/
def f_shown : FD := ⟨{ args := [.sign], kwo := [], dfl := [], kwd := [] }, 1, b_shown⟩
def b_cells_of : Ss := (.cons (.asg (.nm 5) (.bin .mod (.loc 1) (.loc 2)))
  (.cons (.asg (.nm 6) (.bin .sub (.loc 2) (.loc 5)))
  (.cons (.ite (.cmp .eq (.loc 0) (.cst (.str [10])))
  (.cons (.ret (.bin .mul (.lst (.cons (.cst (.str [32])) .nil)) (.loc 6)))
  .nil)
  .nil)
  (.cons (.ite (.cmp .eq (.loc 0) (.cst (.str [9])))
  (.cons (.ret (.bin .mul (.lst (.cons (.cst (.str [32])) .nil)) (.call .min (.cons (.bin .sub (.loc 3) (.bin .mod (.loc 5) (.loc 3))) (.cons (.loc 6) .nil)) [])))
  .nil)
  .nil)
  (.cons (.ite (.cmp .isin (.loc 0) (.loc 4))
  (.cons (.asg (.nm 7) (.ite (.cmp .eq (.loc 6) (.cst (.int 1))) (.lst (.cons (.cst (.str [32])) .nil)) (.lst .nil)))
  (.cons (.ret (.bin .add (.loc 7) (.lst (.cons (.loc 0) (.cons (.cst (.str [])) .nil)))))
  .nil))
  .nil)
  (.cons (.ret (.lst (.cons (.loc 0) .nil)))
  .nil))))))
/-- 22 -/
def f_cells_of : FD := ⟨{ plain := true, args := [.self, .self, .self, .self, .self] }, 8, b_cells_of⟩
def b_all_cells : Ss := (.cons (.asg (.nm 5) (.lst .nil))
  (.cons (.for_ (.nm 6) (.val (.loc 0))
  (.cons (.ex (.meth (.loc 5) .extend (.cons (.call (.df 22) (.cons (.loc 6) (.cons (.bin .add (.loc 1) (.call .len (.cons (.loc 5) .nil) [])) (.cons (.loc 2) (.cons (.loc 3) (.cons (.loc 4) .nil))))) []) .nil) []))
  .nil))
  (.cons (.ret (.loc 5))
  .nil)))
/-- 23 -/
def f_all_cells : FD := ⟨{ plain := true, args := [.self, .self, .self, .self, .self] }, 7, b_all_cells⟩
def b_in_rows : Ss := (.cons (.asg (.nm 2) (.bin .add (.bin .div (.call .len (.cons (.loc 0) .nil) []) (.loc 1)) (.cst (.int 1))))
  (.cons (.asg (.nm 3) (.bin .add (.loc 0) (.bin .mul (.lst (.cons (.cst (.str [32])) .nil)) (.bin .sub (.bin .mul (.loc 2) (.loc 1)) (.call .len (.cons (.loc 0) .nil) [])))))
  (.cons (.ret (.call .tuple (.cons (.comp (.call .tuple (.cons (.slc (.loc 3) (.yes (.bin .mul (.loc 4) (.loc 1))) (.yes (.bin .mul (.bin .add (.loc 4) (.cst (.int 1))) (.loc 1)))) .nil) []) (.nm 4) (.range (.cons (.loc 2) .nil)) .no [4]) .nil) []))
  .nil)))
/-- 24 -/
def f_in_rows : FD := ⟨{ plain := true, args := [.self, .self] }, 5, b_in_rows⟩
def b_place_behind : Ss := (.cons (.ret (.tup (.cons (.bin .div (.call .len (.cons (.loc 0) .nil) []) (.loc 1)) (.cons (.bin .mod (.call .len (.cons (.loc 0) .nil) []) (.loc 1)) .nil))))
  .nil)
/-- 25 -/
def f_place_behind : FD := ⟨{ plain := true, args := [.self, .self] }, 2, b_place_behind⟩
def b_cells : Ss := (.cons (.ret (.call .len (.cons (.call (.df 23) (.cons (.loc 1) (.cons (.loc 2) (.cons (.loc 3) (.cons (.fld (.loc 0) .tab) (.cons (.fld (.loc 0) .wide) .nil))))) []) .nil) []))
  .nil)
/-- 26 -/
def f_cells : FD := ⟨{ args := [.modes, .text], kwo := [.«at», .columns], dfl := [], kwd := [(.«at», (.int 0))] }, 4, b_cells⟩
def b_laid : Ss := (.cons (.ret (.call (.df 24) (.cons (.call (.df 23) (.cons (.loc 1) (.cons (.cst (.int 0)) (.cons (.loc 2) (.cons (.fld (.loc 0) .tab) (.cons (.fld (.loc 0) .wide) .nil))))) []) (.cons (.loc 2) .nil)) []))
  .nil)
/-- 27 -/
def f_laid : FD := ⟨{ args := [.modes, .text], kwo := [.columns], dfl := [], kwd := [] }, 3, b_laid⟩
def b_place : Ss := (.cons (.ret (.call (.df 25) (.cons (.call (.df 23) (.cons (.loc 1) (.cons (.cst (.int 0)) (.cons (.loc 2) (.cons (.fld (.loc 0) .tab) (.cons (.fld (.loc 0) .wide) .nil))))) []) (.cons (.loc 2) .nil)) []))
  .nil)
/-- 28 -/
def f_place : FD := ⟨{ args := [.modes, .text], kwo := [.columns], dfl := [], kwd := [] }, 3, b_place⟩
def b_kind_of : Ss := (.cons (.asg (.nm 3) (.meth (.loc 0) .name_of (.cons (.loc 2) .nil) []))
  (.cons (.ite (.loc 1)
  (.cons (.ret (.cst (.str [108, 105, 116, 101, 114, 97, 108])))
  .nil)
  .nil)
  (.cons (.ite (.or (.and (.fld (.loc 0) .flow) (.cmp .isin (.loc 3) (.glb 15))) (.and (.fld (.loc 0) .signals) (.cmp .isin (.loc 3) (.glb 16))))
  (.cons (.ret (.loc 3))
  .nil)
  .nil)
  (.cons (.ite (.not (.fld (.loc 0) .lines))
  (.cons (.ret (.cst (.str [108, 105, 116, 101, 114, 97, 108])))
  .nil)
  .nil)
  (.cons (.ite (.cmp .eq (.loc 2) (.glb 18))
  (.cons (.ret (.cst (.str [102, 101, 101, 100])))
  .nil)
  .nil)
  (.cons (.ret (.ite (.cmp .isin (.loc 3) (.glb 17)) (.loc 3) (.cst (.str [108, 105, 116, 101, 114, 97, 108]))))
  .nil))))))
/-- 29 -/
def f_kind_of : FD := ⟨{ plain := true, args := [.self, .self, .self] }, 4, b_kind_of⟩
def b_Waiting_init : Ss := (.cons (.asg (.fld (.loc 0) .ended) (.lst .nil))
  (.cons (.asg (.fld (.loc 0) .raw_signs) (.cst (.str [])))
  (.cons (.asg (.fld (.loc 0) .line_now) (.tup .nil))
  (.cons (.asg (.fld (.loc 0) .quoted_next) (.cst (.bl false)))
  .nil))))
/-- 30 -/
def f_Waiting_init : FD := ⟨{ plain := true, args := [.self] }, 1, b_Waiting_init⟩
def b_Waiting_let_go : Ss := (.cons (.asg (.fld (.loc 0) .ended) (.lst .nil))
  (.cons (.asg (.fld (.loc 0) .raw_signs) (.cst (.str [])))
  (.cons (.asg (.fld (.loc 0) .line_now) (.tup .nil))
  .nil)))
/-- 31 -/
def f_Waiting_let_go : FD := ⟨{ plain := true, args := [.self] }, 1, b_Waiting_let_go⟩
def b_Waiting_put : Ss := (.cons (.ite (.fld (.loc 1) .lines)
  (.cons (.asg (.fld (.loc 0) .line_now) (.bin .add (.fld (.loc 0) .line_now) (.tup (.cons (.loc 2) .nil))))
  .nil)
  (.cons (.asg (.fld (.loc 0) .raw_signs) (.bin .add (.fld (.loc 0) .raw_signs) (.loc 2)))
  .nil))
  .nil)
/-- 32 -/
def f_Waiting_put : FD := ⟨{ plain := true, args := [.self, .self, .self] }, 3, b_Waiting_put⟩
def b_Waiting_finish : Ss := (.cons (.ex (.meth (.fld (.loc 0) .ended) .append (.cons (.bin .add (.meth (.cst (.str [])) .join (.cons (.fld (.loc 0) .line_now) .nil) []) (.loc 1)) .nil) []))
  (.cons (.asg (.fld (.loc 0) .line_now) (.tup .nil))
  .nil))
/-- 33 -/
def f_Waiting_finish : FD := ⟨{ plain := true, args := [.self, .self] }, 2, b_Waiting_finish⟩
def b_Waiting_key_taken : Ss := (.cons (.asg (.nm 3) (.call (.df 29) (.cons (.loc 1) (.cons (.fld (.loc 0) .quoted_next) (.cons (.loc 2) .nil))) []))
  (.cons (.asg (.fld (.loc 0) .quoted_next) (.cmp .eq (.loc 3) (.cst (.str [113, 117, 111, 116, 101]))))
  (.cons (.ite (.cmp .eq (.loc 3) (.cst (.str [108, 105, 116, 101, 114, 97, 108])))
  (.cons (.ex (.meth (.loc 0) .put (.cons (.loc 1) (.cons (.loc 2) .nil)) []))
  .nil)
  (.cons (.ite (.and (.cmp .isin (.loc 3) (.glb 16)) (.fld (.loc 1) .flush))
  (.cons (.ex (.meth (.loc 0) .let_go .nil []))
  .nil)
  (.cons (.ite (.cmp .eq (.loc 3) (.cst (.str [102, 101, 101, 100])))
  (.cons (.ex (.meth (.loc 0) .finish (.cons (.glb 18) .nil) []))
  .nil)
  (.cons (.ite (.cmp .eq (.loc 3) (.cst (.str [101, 110, 100])))
  (.cons (.ex (.meth (.loc 0) .finish (.cons (.cst (.str [])) .nil) []))
  .nil)
  (.cons (.ite (.cmp .isin (.loc 3) (.tup (.cons (.cst (.str [101, 114, 97, 115, 101])) (.cons (.cst (.str [107, 105, 108, 108])) (.cons (.cst (.str [119, 111, 114, 100])) .nil)))))
  (.cons (.asg (.fld (.loc 0) .line_now) (.call (.df 19) (.cons (.loc 1) (.cons (.fld (.loc 0) .line_now) (.cons (.loc 2) .nil))) []))
  .nil)
  .nil)
  .nil))
  .nil))
  .nil))
  .nil))
  .nil)))
/-- 34 -/
def f_Waiting_key_taken : FD := ⟨{ plain := true, args := [.self, .self, .self] }, 4, b_Waiting_key_taken⟩
def b_rule : Ss := (.cons (.asg (.nm 2) (.call (.cl 1) .nil []))
  (.cons (.for_ (.nm 3) (.val (.loc 1))
  (.cons (.ex (.meth (.loc 2) .key_taken (.cons (.loc 0) (.cons (.loc 3) .nil)) []))
  .nil))
  (.cons (.ret (.tup (.cons (.call .tuple (.cons (.fld (.loc 2) .ended) .nil) []) (.cons (.fld (.loc 2) .raw_signs) (.cons (.fld (.loc 2) .line_now) .nil)))))
  .nil)))
/-- 35 -/
def f_rule : FD := ⟨{ args := [.modes, .keys], kwo := [], dfl := [], kwd := [] }, 4, b_rule⟩
def b_Keeping_init : Ss := (.cons (.asg (.fld (.loc 0) .modes) (.loc 1))
  (.cons (.asg (.fld (.loc 0) .lines) (.lst .nil))
  (.cons (.asg (.fld (.loc 0) .in_lines) (.cst (.int 0)))
  (.cons (.asg (.fld (.loc 0) .loose) (.lst .nil))
  (.cons (.asg (.fld (.loc 0) .typed) (.tup .nil))
  (.cons (.asgs (.cons (.fld (.loc 0) .quoting) (.cons (.fld (.loc 0) .halted) .nil)) (.cst (.bl false)))
  (.cons (.asgs (.cons (.fld (.loc 0) .taken) (.cons (.fld (.loc 0) .told) (.cons (.fld (.loc 0) .backed) (.cons (.fld (.loc 0) .flushed) (.cons (.fld (.loc 0) .lost) .nil))))) (.cst (.int 0)))
  .nil)))))))
/-- 36 -/
def f_Keeping_init : FD := ⟨{ plain := true, args := [.self, .self] }, 2, b_Keeping_init⟩
def b_Keeping_tail : Ss := (.cons (.ret (.meth (.cst (.str [])) .join (.cons (.comp (.call (.df 21) (.cons (.loc 1) .nil) []) (.nm 1) (.val (.fld (.loc 0) .typed)) .no [1]) .nil) []))
  .nil)
/-- 37 -/
def f_Keeping_tail : FD := ⟨{ plain := true, args := [.self] }, 2, b_Keeping_tail⟩
def b_Keeping_waiting_now : Ss := (.cons (.ret (.bin .add (.bin .add (.call .len (.cons (.fld (.loc 0) .typed) .nil) []) (.call .len (.cons (.fld (.loc 0) .loose) .nil) [])) (.fld (.loc 0) .in_lines)))
  .nil)
/-- 38 -/
def f_Keeping_waiting_now : FD := ⟨{ plain := true, args := [.self] }, 1, b_Keeping_waiting_now⟩
def b_Keeping_books : Ss := (.cons (.ret (.tup (.cons (.fld (.loc 0) .taken) (.cons (.fld (.loc 0) .told) (.cons (.fld (.loc 0) .backed) (.cons (.fld (.loc 0) .flushed) (.cons (.meth (.loc 0) .waiting_now .nil []) (.cons (.fld (.loc 0) .lost) .nil))))))))
  .nil)
/-- 39 -/
def f_Keeping_books : FD := ⟨{ plain := true, args := [.self] }, 1, b_Keeping_books⟩
def b_Keeping_take : Ss := (.cons (.asg (.nm 2) (.call (.df 29) (.cons (.fld (.loc 0) .modes) (.cons (.fld (.loc 0) .quoting) (.cons (.loc 1) .nil))) []))
  (.cons (.asg (.fld (.loc 0) .quoting) (.cmp .eq (.loc 2) (.cst (.str [113, 117, 111, 116, 101]))))
  (.cons (.ite (.cmp .isin (.loc 2) (.glb 15))
  (.cons (.asg (.fld (.loc 0) .halted) (.cmp .eq (.loc 2) (.cst (.str [115, 116, 111, 112]))))
  .nil)
  (.cons (.ite (.cmp .isin (.loc 2) (.glb 16))
  (.cons (.ret (.tup (.cons (.loc 2) (.cons (.meth (.loc 0) .signal (.cons (.loc 1) .nil) []) .nil))))
  .nil)
  (.cons (.ite (.cmp .isin (.loc 2) (.glb 14))
  (.cons (.aug (.fld (.loc 0) .backed) .add (.call (.df 20) (.cons (.fld (.loc 0) .modes) (.cons (.fld (.loc 0) .typed) (.cons (.loc 1) .nil))) []))
  (.cons (.asg (.fld (.loc 0) .typed) (.call (.df 19) (.cons (.fld (.loc 0) .modes) (.cons (.fld (.loc 0) .typed) (.cons (.loc 1) .nil))) []))
  .nil))
  (.cons (.ite (.cmp .eq (.loc 2) (.cst (.str [97, 103, 97, 105, 110])))
  (.cons (.ret (.tup (.cons (.loc 2) (.cons (.bin .add (.meth (.loc 0) .tail .nil []) (.cst (.str [10]))) .nil))))
  .nil)
  (.cons (.ite (.cmp .isin (.loc 2) (.tup (.cons (.cst (.str [102, 101, 101, 100])) (.cons (.cst (.str [101, 110, 100])) .nil))))
  (.cons (.ret (.tup (.cons (.loc 2) (.cons (.meth (.loc 0) .finish (.cons (.bin .mul (.cst (.str [10])) (.call .int (.cons (.cmp .eq (.loc 2) (.cst (.str [102, 101, 101, 100]))) .nil) [])) .nil) []) .nil))))
  .nil)
  (.cons (.ite (.cmp .eq (.loc 2) (.cst (.str [108, 105, 116, 101, 114, 97, 108])))
  (.cons (.ret (.meth (.loc 0) .take_literal (.cons (.loc 1) .nil) []))
  .nil)
  .nil)
  .nil))
  .nil))
  .nil))
  .nil))
  .nil))
  (.cons (.ret (.tup (.cons (.loc 2) (.cons (.cst (.str [])) .nil))))
  .nil))))
/-- 40 -/
def f_Keeping_take : FD := ⟨{ plain := true, args := [.self, .self] }, 3, b_Keeping_take⟩
def b_Keeping_take_literal : Ss := (.cons (.ite (.cmp .ge (.meth (.loc 0) .waiting_now .nil []) (.fld (.fld (.loc 0) .modes) .room))
  (.cons (.aug (.fld (.loc 0) .lost) .add (.cst (.int 1)))
  (.cons (.ret (.tup (.cons (.cst (.str [108, 111, 115, 116])) (.cons (.cst (.str [])) .nil))))
  .nil))
  .nil)
  (.cons (.aug (.fld (.loc 0) .taken) .add (.cst (.int 1)))
  (.cons (.ite (.fld (.fld (.loc 0) .modes) .lines)
  (.cons (.aug (.fld (.loc 0) .typed) .add (.tup (.cons (.loc 1) .nil)))
  (.cons (.ret (.tup (.cons (.cst (.str [108, 105, 116, 101, 114, 97, 108])) (.cons (.cst (.str [])) .nil))))
  .nil))
  .nil)
  (.cons (.ex (.meth (.fld (.loc 0) .loose) .append (.cons (.loc 1) .nil) []))
  (.cons (.ret (.tup (.cons (.cst (.str [108, 105, 116, 101, 114, 97, 108])) (.cons (.call (.df 21) (.cons (.loc 1) .nil) []) .nil))))
  .nil)))))
/-- 41 -/
def f_Keeping_take_literal : FD := ⟨{ plain := true, args := [.self, .self] }, 2, b_Keeping_take_literal⟩
def b_Keeping_finish : Ss := (.cons (.asg (.nm 2) (.bin .add (.meth (.loc 0) .tail .nil []) (.loc 1)))
  (.cons (.ex (.meth (.fld (.loc 0) .lines) .append (.cons (.bin .add (.meth (.cst (.str [])) .join (.cons (.fld (.loc 0) .typed) .nil) []) (.loc 1)) .nil) []))
  (.cons (.aug (.fld (.loc 0) .in_lines) .add (.bin .add (.call .len (.cons (.fld (.loc 0) .typed) .nil) []) (.call .len (.cons (.loc 1) .nil) [])))
  (.cons (.aug (.fld (.loc 0) .taken) .add (.call .len (.cons (.loc 1) .nil) []))
  (.cons (.asg (.fld (.loc 0) .typed) (.tup .nil))
  (.cons (.ret (.loc 2))
  .nil))))))
/-- 42 -/
def f_Keeping_finish : FD := ⟨{ plain := true, args := [.self, .self] }, 3, b_Keeping_finish⟩
def b_Keeping_signal : Ss := (.cons (.asg (.nm 2) (.bin .add (.bin .add (.meth (.loc 0) .tail .nil []) (.loc 1)) (.cst (.str [10]))))
  (.cons (.asg (.fld (.loc 0) .halted) (.cst (.bl false)))
  (.cons (.ite (.fld (.fld (.loc 0) .modes) .flush)
  (.cons (.aug (.fld (.loc 0) .flushed) .add (.meth (.loc 0) .waiting_now .nil []))
  (.cons (.asg (.fld (.loc 0) .lines) (.lst .nil))
  (.cons (.asg (.fld (.loc 0) .in_lines) (.cst (.int 0)))
  (.cons (.asg (.fld (.loc 0) .loose) (.lst .nil))
  (.cons (.asg (.fld (.loc 0) .typed) (.tup .nil))
  .nil)))))
  .nil)
  (.cons (.ret (.loc 2))
  .nil))))
/-- 43 -/
def f_Keeping_signal : FD := ⟨{ plain := true, args := [.self, .self] }, 3, b_Keeping_signal⟩
def b_Keeping_give_line : Ss := (.cons (.asg (.nm 2) (.idx (.fld (.loc 0) .lines) (.cst (.int 0))))
  (.cons (.asg (.nm 3) (.slc (.loc 2) .no (.yes (.loc 1))))
  (.cons (.ite (.cmp .gt (.call .len (.cons (.loc 2) .nil) []) (.loc 1))
  (.cons (.asg (.idx (.fld (.loc 0) .lines) (.cst (.int 0))) (.slc (.loc 2) (.yes (.loc 1)) .no))
  .nil)
  (.cons (.ex (.meth (.fld (.loc 0) .lines) .pop (.cons (.cst (.int 0)) .nil) []))
  .nil))
  (.cons (.aug (.fld (.loc 0) .in_lines) .sub (.call .len (.cons (.loc 3) .nil) []))
  (.cons (.aug (.fld (.loc 0) .told) .add (.call .len (.cons (.loc 3) .nil) []))
  (.cons (.ret (.loc 3))
  .nil))))))
/-- 44 -/
def f_Keeping_give_line : FD := ⟨{ plain := true, args := [.self, .self] }, 4, b_Keeping_give_line⟩
def b_Keeping_give_loose : Ss := (.cons (.asg (.nm 2) (.slc (.fld (.loc 0) .loose) .no (.yes (.loc 1))))
  (.cons (.asg (.fld (.loc 0) .loose) (.slc (.fld (.loc 0) .loose) (.yes (.loc 1)) .no))
  (.cons (.aug (.fld (.loc 0) .told) .add (.call .len (.cons (.loc 2) .nil) []))
  (.cons (.ret (.meth (.cst (.str [])) .join (.cons (.loc 2) .nil) []))
  .nil))))
/-- 45 -/
def f_Keeping_give_loose : FD := ⟨{ plain := true, args := [.self, .self] }, 3, b_Keeping_give_loose⟩
def b_Keeping_turn_modes : Ss := (.cons (.asg (.nm 2) (.cst (.str [])))
  (.cons (.ite (.and (.fld (.fld (.loc 0) .modes) .lines) (.not (.fld (.loc 1) .lines)))
  (.cons (.asg (.nm 2) (.meth (.loc 0) .tail .nil []))
  (.cons (.asg (.fld (.loc 0) .loose) (.bin .add (.call .list (.cons (.meth (.cst (.str [])) .join (.cons (.fld (.loc 0) .lines) .nil) []) .nil) []) (.call .list (.cons (.fld (.loc 0) .typed) .nil) [])))
  (.cons (.asg (.fld (.loc 0) .lines) (.lst .nil))
  (.cons (.asg (.fld (.loc 0) .in_lines) (.cst (.int 0)))
  (.cons (.asg (.fld (.loc 0) .typed) (.tup .nil))
  (.cons (.asg (.fld (.loc 0) .quoting) (.cst (.bl false)))
  .nil))))))
  (.cons (.ite (.and (.fld (.loc 1) .lines) (.cmp .gt (.call .len (.cons (.fld (.loc 0) .loose) .nil) []) (.cst (.int 0))))
  (.cons (.ex (.meth (.fld (.loc 0) .lines) .append (.cons (.meth (.cst (.str [])) .join (.cons (.fld (.loc 0) .loose) .nil) []) .nil) []))
  (.cons (.asg (.fld (.loc 0) .in_lines) (.call .len (.cons (.fld (.loc 0) .loose) .nil) []))
  (.cons (.asg (.fld (.loc 0) .loose) (.lst .nil))
  .nil)))
  .nil)
  .nil))
  (.cons (.ite (.not (.fld (.loc 1) .flow))
  (.cons (.asg (.fld (.loc 0) .halted) (.cst (.bl false)))
  .nil)
  .nil)
  (.cons (.asg (.fld (.loc 0) .modes) (.loc 1))
  (.cons (.ret (.loc 2))
  .nil)))))
/-- 46 -/
def f_Keeping_turn_modes : FD := ⟨{ plain := true, args := [.self, .self] }, 3, b_Keeping_turn_modes⟩
def b_Reads_init : Ss := (.cons (.asg (.fld (.loc 0) .asked) (.lst .nil))
  (.cons (.asg (.fld (.loc 0) .ticks_gone) (.cst (.int 0)))
  (.cons (.asg (.fld (.loc 0) .first_since) (.cst (.int 0)))
  (.cons (.asg (.fld (.loc 0) .last_came) (.cst (.int 0)))
  .nil))))
/-- 47 -/
def f_Reads_init : FD := ⟨{ plain := true, args := [.self] }, 1, b_Reads_init⟩
def b_Reads_add : Ss := (.cons (.ite (.cmp .eq (.call .len (.cons (.fld (.loc 0) .asked) .nil) []) (.cst (.int 0)))
  (.cons (.asg (.fld (.loc 0) .first_since) (.fld (.loc 0) .ticks_gone))
  .nil)
  .nil)
  (.cons (.ex (.meth (.fld (.loc 0) .asked) .append (.cons (.tup (.cons (.loc 1) (.cons (.loc 2) .nil))) .nil) []))
  .nil))
/-- 48 -/
def f_Reads_add : FD := ⟨{ plain := true, args := [.self, .self, .self] }, 3, b_Reads_add⟩
def b_Reads_pass_tick : Ss := (.cons (.aug (.fld (.loc 0) .ticks_gone) .add (.cst (.int 1)))
  .nil)
/-- 49 -/
def f_Reads_pass_tick : FD := ⟨{ plain := true, args := [.self] }, 1, b_Reads_pass_tick⟩
def b_Reads_came : Ss := (.cons (.asg (.fld (.loc 0) .last_came) (.fld (.loc 0) .ticks_gone))
  .nil)
/-- 50 -/
def f_Reads_came : FD := ⟨{ plain := true, args := [.self] }, 1, b_Reads_came⟩
def b_Reads_let_go : Ss := (.cons (.asg (.nm 2) (.slc (.fld (.loc 0) .asked) .no (.yes (.cst (.int 1)))))
  (.cons (.asg (.nm 3) (.comp (.loc 4) (.nm 4) (.val (.fld (.loc 0) .asked)) (.yes (.cmp .ne (.idx (.loc 4) (.cst (.int 0))) (.loc 1))) [4]))
  (.cons (.ite (.and (.cmp .ne (.loc 2) (.lst .nil)) (.cmp .eq (.idx (.idx (.loc 2) (.cst (.int 0))) (.cst (.int 0))) (.loc 1)))
  (.cons (.asg (.fld (.loc 0) .first_since) (.fld (.loc 0) .ticks_gone))
  .nil)
  .nil)
  (.cons (.asg (.fld (.loc 0) .asked) (.loc 3))
  .nil))))
/-- 51 -/
def f_Reads_let_go : FD := ⟨{ plain := true, args := [.self, .self] }, 5, b_Reads_let_go⟩
def b_Reads_waiting : Ss := (.cons (.ret (.call .tuple (.cons (.fld (.loc 0) .asked) .nil) []))
  .nil)
/-- 52 -/
def f_Reads_waiting : FD := ⟨{ plain := true, args := [.self] }, 1, b_Reads_waiting⟩
def b_Reads_is_paused : Ss := (.cons (.ret (.cmp .ge (.bin .sub (.fld (.loc 0) .ticks_gone) (.loc 1)) (.loc 2)))
  .nil)
/-- 53 -/
def f_Reads_is_paused : FD := ⟨{ plain := true, args := [.self, .self, .self] }, 3, b_Reads_is_paused⟩
def b_Reads_can_be_loose : Ss := (.cons (.asg (.nm 5) (.call .min (.cons (.loc 3) (.cons (.loc 2) .nil)) []))
  (.cons (.ite (.cmp .eq (.loc 4) (.cst (.int 0)))
  (.cons (.ret (.cmp .ge (.loc 1) (.loc 5)))
  .nil)
  .nil)
  (.cons (.ite (.cmp .eq (.loc 5) (.cst (.int 0)))
  (.cons (.ret (.or (.cmp .gt (.loc 1) (.cst (.int 0))) (.meth (.loc 0) .is_paused (.cons (.fld (.loc 0) .first_since) (.cons (.loc 4) .nil)) [])))
  .nil)
  .nil)
  (.cons (.ret (.or (.cmp .ge (.loc 1) (.loc 5)) (.and (.cmp .gt (.loc 1) (.cst (.int 0))) (.meth (.loc 0) .is_paused (.cons (.call .max (.cons (.fld (.loc 0) .first_since) (.cons (.fld (.loc 0) .last_came) .nil)) []) (.cons (.loc 4) .nil)) []))))
  .nil))))
/-- 54 -/
def f_Reads_can_be_loose : FD := ⟨{ plain := true, args := [.self, .self, .self, .self, .self] }, 6, b_Reads_can_be_loose⟩
def b_Reads_can_be : Ss := (.cons (.ite (.cmp .eq (.call .len (.cons (.fld (.loc 0) .asked) .nil) []) (.cst (.int 0)))
  (.cons (.ret (.cst (.bl false)))
  .nil)
  .nil)
  (.cons (.ite (.fld (.fld (.loc 1) .modes) .lines)
  (.cons (.ret (.cmp .gt (.call .len (.cons (.fld (.loc 1) .lines) .nil) []) (.cst (.int 0))))
  .nil)
  .nil)
  (.cons (.ret (.meth (.loc 0) .can_be_loose (.cons (.call .len (.cons (.fld (.loc 1) .loose) .nil) []) (.cons (.idx (.idx (.fld (.loc 0) .asked) (.cst (.int 0))) (.cst (.int 1))) (.cons (.fld (.fld (.loc 1) .modes) .least) (.cons (.fld (.fld (.loc 1) .modes) .pause) .nil)))) []))
  .nil)))
/-- 55 -/
def f_Reads_can_be : FD := ⟨{ plain := true, args := [.self, .self] }, 2, b_Reads_can_be⟩
def b_Reads_serve : Ss := (.cons (.asg (.nm 2) (.lst .nil))
  (.cons (.whl (.meth (.loc 0) .can_be (.cons (.loc 1) .nil) [])
  (.cons (.asg (.stup (.cons (.tup (.cons (.nm 3) (.cons (.nm 4) .nil))) .nil) 5) (.fld (.loc 0) .asked))
  (.cons (.asg (.fld (.loc 0) .asked) (.loc 5))
  (.cons (.asg (.fld (.loc 0) .first_since) (.fld (.loc 0) .ticks_gone))
  (.cons (.ex (.meth (.loc 2) .append (.cons (.tup (.cons (.loc 3) (.cons (.ite (.fld (.fld (.loc 1) .modes) .lines) (.meth (.loc 1) .give_line (.cons (.loc 4) .nil) []) (.meth (.loc 1) .give_loose (.cons (.loc 4) .nil) [])) .nil))) .nil) []))
  .nil)))))
  (.cons (.ret (.loc 2))
  .nil)))
/-- 56 -/
def f_Reads_serve : FD := ⟨{ plain := true, args := [.self, .self] }, 6, b_Reads_serve⟩
def b_Screen_init : Ss := (.cons (.asg (.fld (.loc 0) .columns) (.loc 1))
  (.cons (.asg (.fld (.loc 0) .tab) (.loc 2))
  (.cons (.asg (.fld (.loc 0) .wide) (.loc 3))
  (.cons (.asg (.fld (.loc 0) .standing) (.lst .nil))
  .nil))))
/-- 57 -/
def f_Screen_init : FD := ⟨{ args := [.self, .columns], kwo := [.tab, .wide], dfl := [], kwd := [(.tab, (.int 8)), (.wide, (.str []))] }, 4, b_Screen_init⟩
def b_Screen_eq : Ss := (.cons (.ite (.not (.call (.isinst (.cls 4)) (.cons (.loc 1) .nil) []))
  (.cons (.ret (.cst (.bl false)))
  .nil)
  .nil)
  (.cons (.asg (.tup (.cons (.nm 2) (.cons (.nm 3) .nil))) (.tup (.cons (.tup (.cons (.fld (.loc 0) .columns) (.cons (.fld (.loc 0) .tab) (.cons (.fld (.loc 0) .wide) .nil)))) (.cons (.tup (.cons (.fld (.loc 1) .columns) (.cons (.fld (.loc 1) .tab) (.cons (.fld (.loc 1) .wide) .nil)))) .nil))))
  (.cons (.ret (.and (.cmp .eq (.loc 2) (.loc 3)) (.and (.cmp .eq (.meth (.loc 0) .rows .nil []) (.meth (.loc 1) .rows .nil [])) (.cmp .eq (.meth (.loc 0) .«where» .nil []) (.meth (.loc 1) .«where» .nil [])))))
  .nil)))
/-- 58 -/
def f_Screen_eq : FD := ⟨{ plain := true, args := [.self, .self] }, 4, b_Screen_eq⟩
def b_Screen_show : Ss := (.cons (.ex (.meth (.fld (.loc 0) .standing) .extend (.cons (.call (.df 23) (.cons (.loc 1) (.cons (.call .len (.cons (.fld (.loc 0) .standing) .nil) []) (.cons (.fld (.loc 0) .columns) (.cons (.fld (.loc 0) .tab) (.cons (.fld (.loc 0) .wide) .nil))))) []) .nil) []))
  .nil)
/-- 59 -/
def f_Screen_show : FD := ⟨{ args := [.self, .text], kwo := [], dfl := [], kwd := [] }, 2, b_Screen_show⟩
def b_Screen_back : Ss := (.cons (.ite (.cmp .gt (.loc 1) (.call .len (.cons (.fld (.loc 0) .standing) .nil) []))
  (.cons .never
  .nil)
  .nil)
  (.cons (.asg (.fld (.loc 0) .standing) (.slc (.fld (.loc 0) .standing) .no (.yes (.bin .sub (.call .len (.cons (.fld (.loc 0) .standing) .nil) []) (.loc 1)))))
  .nil))
/-- 60 -/
def f_Screen_back : FD := ⟨{ args := [.self, .many], kwo := [], dfl := [], kwd := [] }, 2, b_Screen_back⟩
def b_Screen_rows : Ss := (.cons (.ret (.call (.df 24) (.cons (.fld (.loc 0) .standing) (.cons (.fld (.loc 0) .columns) .nil)) []))
  .nil)
/-- 61 -/
def f_Screen_rows : FD := ⟨{ plain := true, args := [.self] }, 1, b_Screen_rows⟩
def b_Screen_where : Ss := (.cons (.ret (.call (.df 25) (.cons (.fld (.loc 0) .standing) (.cons (.fld (.loc 0) .columns) .nil)) []))
  .nil)
/-- 62 -/
def f_Screen_where : FD := ⟨{ plain := true, args := [.self] }, 1, b_Screen_where⟩
def b_same_beginning : Ss := (.cons (.ite (.meth (.loc 1) .startswith (.cons (.loc 0) .nil) [])
  (.cons (.ret (.call .len (.cons (.loc 0) .nil) []))
  .nil)
  .nil)
  (.cons (.asg (.nm 3) (.ite (.meth (.loc 1) .startswith (.cons (.slc (.loc 0) .no (.yes (.loc 2))) .nil) []) (.loc 2) (.cst (.int 0))))
  (.cons (.for_ (.tup (.cons (.nm 4) (.cons (.nm 5) .nil))) (.zip (.slc (.loc 0) (.yes (.loc 3)) .no) (.slc (.loc 1) (.yes (.loc 3)) .no))
  (.cons (.ite (.cmp .ne (.loc 4) (.loc 5))
  (.cons (.ret (.loc 3))
  .nil)
  .nil)
  (.cons (.aug (.nm 3) .add (.cst (.int 1)))
  .nil)))
  (.cons (.ret (.loc 3))
  .nil))))
/-- 63 -/
def f_same_beginning : FD := ⟨{ plain := true, args := [.self, .self, .self] }, 6, b_same_beginning⟩
def b_Showing_init : Ss := (.cons (.asg (.fld (.loc 0) .modes) (.loc 1))
  (.cons (.asg (.fld (.loc 0) .columns) (.loc 2))
  (.cons (.asg (.fld (.loc 0) .kept_text) (.cst (.str [])))
  (.cons (.asg (.fld (.loc 0) .held_texts) (.cst .non))
  (.cons (.asg (.fld (.loc 0) .seen_text) (.cst (.str [])))
  (.cons (.asg (.fld (.loc 0) .seen_good) (.cst (.int 0)))
  (.cons (.asg (.fld (.loc 0) .seen_cells) (.lst (.cons (.cst (.int 0)) .nil)))
  (.cons (.asg (.fld (.loc 0) .made) (.lst .nil))
  .nil))))))))
/-- 64 -/
def f_Showing_init : FD := ⟨{ plain := true, args := [.self, .self, .self] }, 3, b_Showing_init⟩
def b_Showing_add : Ss := (.cons (.aug (.fld (.loc 0) .kept_text) .add (.loc 1))
  .nil)
/-- 65 -/
def f_Showing_add : FD := ⟨{ plain := true, args := [.self, .self] }, 2, b_Showing_add⟩
def b_Showing_hold : Ss := (.cons (.ite (.cmp .isn (.fld (.loc 0) .held_texts) (.cst .non))
  (.cons (.asg (.fld (.loc 0) .held_texts) (.tup (.cons (.fld (.loc 0) .kept_text) (.cons (.bin .add (.fld (.loc 0) .kept_text) (.loc 1)) .nil))))
  .nil)
  .nil)
  .nil)
/-- 66 -/
def f_Showing_hold : FD := ⟨{ plain := true, args := [.self, .self] }, 2, b_Showing_hold⟩
def b_Showing_go_on : Ss := (.cons (.asg (.fld (.loc 0) .held_texts) (.cst .non))
  .nil)
/-- 67 -/
def f_Showing_go_on : FD := ⟨{ plain := true, args := [.self] }, 1, b_Showing_go_on⟩
def b_Showing_let_go : Ss := (.cons (.ite (.cmp .notn (.fld (.loc 0) .held_texts) (.cst .non))
  (.cons (.asg (.fld (.loc 0) .kept_text) (.idx (.fld (.loc 0) .held_texts) (.cst (.int 0))))
  .nil)
  .nil)
  .nil)
/-- 68 -/
def f_Showing_let_go : FD := ⟨{ plain := true, args := [.self] }, 1, b_Showing_let_go⟩
def b_Showing_now_shown : Ss := (.cons (.ite (.cmp .notn (.fld (.loc 0) .held_texts) (.cst .non))
  (.cons (.ret (.idx (.fld (.loc 0) .held_texts) (.cst (.int 1))))
  .nil)
  .nil)
  (.cons (.ret (.bin .add (.fld (.loc 0) .kept_text) (.loc 1)))
  .nil))
/-- 69 -/
def f_Showing_now_shown : FD := ⟨{ plain := true, args := [.self, .self] }, 2, b_Showing_now_shown⟩
def b_Showing_see : Ss := (.cons (.ite (.cmp .lt (.loc 2) (.call .len (.cons (.fld (.loc 0) .seen_text) .nil) []))
  (.cons (.asg (.fld (.loc 0) .seen_cells) (.slc (.fld (.loc 0) .seen_cells) .no (.yes (.bin .add (.loc 2) (.cst (.int 1))))))
  .nil)
  .nil)
  (.cons (.for_ (.nm 3) (.val (.slc (.loc 1) (.yes (.loc 2)) .no))
  (.cons (.asg (.nm 4) (.idx (.fld (.loc 0) .seen_cells) (.neg (.cst (.int 1)))))
  (.cons (.ex (.meth (.fld (.loc 0) .seen_cells) .append (.cons (.bin .add (.loc 4) (.call (.df 26) (.cons (.fld (.loc 0) .modes) (.cons (.loc 3) (.cons (.loc 4) (.cons (.fld (.loc 0) .columns) .nil)))) [.«at», .columns])) .nil) []))
  .nil)))
  (.cons (.asg (.fld (.loc 0) .seen_text) (.loc 1))
  .nil)))
/-- 70 -/
def f_Showing_see : FD := ⟨{ plain := true, args := [.self, .self, .self] }, 5, b_Showing_see⟩
def b_Showing_look : Ss := (.cons (.asg (.nm 2) (.meth (.loc 0) .now_shown (.cons (.loc 1) .nil) []))
  (.cons (.ite (.cmp .eq (.loc 2) (.fld (.loc 0) .seen_text))
  (.cons .retn
  .nil)
  .nil)
  (.cons (.asg (.nm 3) (.call (.df 63) (.cons (.fld (.loc 0) .seen_text) (.cons (.loc 2) (.cons (.fld (.loc 0) .seen_good) .nil))) []))
  (.cons (.asg (.nm 4) (.bin .sub (.idx (.fld (.loc 0) .seen_cells) (.neg (.cst (.int 1)))) (.idx (.fld (.loc 0) .seen_cells) (.loc 3))))
  (.cons (.ite (.cmp .gt (.loc 4) (.cst (.int 0)))
  (.cons (.ex (.meth (.fld (.loc 0) .made) .append (.cons (.tup (.cons (.cst (.str [98, 97, 99, 107])) (.cons (.loc 4) .nil))) .nil) []))
  .nil)
  .nil)
  (.cons (.ite (.cmp .lt (.loc 3) (.call .len (.cons (.loc 2) .nil) []))
  (.cons (.ex (.meth (.fld (.loc 0) .made) .append (.cons (.tup (.cons (.cst (.str [115, 104, 111, 119])) (.cons (.slc (.loc 2) (.yes (.loc 3)) .no) .nil))) .nil) []))
  .nil)
  .nil)
  (.cons (.ex (.meth (.loc 0) .see (.cons (.loc 2) (.cons (.loc 3) .nil)) []))
  (.cons (.asg (.fld (.loc 0) .seen_good) (.call .len (.cons (.meth (.loc 0) .good .nil []) .nil) []))
  .nil))))))))
/-- 71 -/
def f_Showing_look : FD := ⟨{ plain := true, args := [.self, .self] }, 5, b_Showing_look⟩
def b_Showing_turn : Ss := (.cons (.ite (.cmp .eq (.loc 1) (.fld (.loc 0) .columns))
  (.cons .retn
  .nil)
  .nil)
  (.cons (.asg (.fld (.loc 0) .columns) (.loc 1))
  (.cons (.ex (.meth (.loc 0) .see (.cons (.fld (.loc 0) .seen_text) (.cons (.cst (.int 0)) .nil)) []))
  (.cons (.ex (.meth (.fld (.loc 0) .made) .append (.cons (.tup (.cons (.cst (.str [115, 105, 122, 101])) (.cons (.loc 1) .nil))) .nil) []))
  (.cons (.ite (.cmp .ne (.fld (.loc 0) .seen_text) (.cst (.str [])))
  (.cons (.ex (.meth (.fld (.loc 0) .made) .append (.cons (.tup (.cons (.cst (.str [115, 104, 111, 119])) (.cons (.fld (.loc 0) .seen_text) .nil))) .nil) []))
  .nil)
  .nil)
  .nil)))))
/-- 72 -/
def f_Showing_turn : FD := ⟨{ plain := true, args := [.self, .self] }, 2, b_Showing_turn⟩
def b_Showing_good : Ss := (.cons (.ret (.ite (.cmp .isn (.fld (.loc 0) .held_texts) (.cst .non)) (.fld (.loc 0) .kept_text) (.idx (.fld (.loc 0) .held_texts) (.cst (.int 0)))))
  .nil)
/-- 73 -/
def f_Showing_good : FD := ⟨{ plain := true, args := [.self] }, 1, b_Showing_good⟩
def b_Showing_all_shown : Ss := (.cons (.ret (.fld (.loc 0) .seen_text))
  .nil)
/-- 74 -/
def f_Showing_all_shown : FD := ⟨{ plain := true, args := [.self] }, 1, b_Showing_all_shown⟩
def b_Showing_screen : Ss := (.cons (.asg (.nm 1) (.call (.cl 4) (.cons (.fld (.loc 0) .columns) (.cons (.fld (.fld (.loc 0) .modes) .tab) (.cons (.fld (.fld (.loc 0) .modes) .wide) .nil))) [.tab, .wide]))
  (.cons (.ex (.meth (.loc 1) .«show» (.cons (.fld (.loc 0) .seen_text) .nil) []))
  (.cons (.ret (.loc 1))
  .nil)))
/-- 75 -/
def f_Showing_screen : FD := ⟨{ plain := true, args := [.self] }, 2, b_Showing_screen⟩
def b_Showing_deeds : Ss := (.cons (.ret (.call .tuple (.cons (.fld (.loc 0) .made) .nil) []))
  .nil)
/-- 76 -/
def f_Showing_deeds : FD := ⟨{ plain := true, args := [.self] }, 1, b_Showing_deeds⟩
def b_done : Ss := (.cons (.asg (.nm 3) (.cst .non))
  (.cons (.for_ (.tup (.cons (.nm 4) (.cons (.nm 5) .nil))) (.val (.loc 0))
  (.cons (.ite (.cmp .eq (.loc 4) (.cst (.str [115, 105, 122, 101])))
  (.cons (.asg (.nm 3) (.call (.cl 4) (.cons (.loc 5) (.cons (.loc 1) (.cons (.loc 2) .nil))) [.tab, .wide]))
  .nil)
  (.cons (.ite (.cmp .eq (.loc 4) (.cst (.str [115, 104, 111, 119])))
  (.cons (.ex (.meth (.loc 3) .«show» (.cons (.loc 5) .nil) []))
  .nil)
  (.cons (.ex (.meth (.loc 3) .«back» (.cons (.loc 5) .nil) []))
  .nil))
  .nil))
  .nil))
  (.cons (.ret (.loc 3))
  .nil)))
/-- 77 -/
def f_done : FD := ⟨{ args := [.deeds], kwo := [.tab, .wide], dfl := [], kwd := [(.tab, (.int 8)), (.wide, (.str []))] }, 6, b_done⟩
def b_Line_init : Ss := (.cons (.asg (.fld (.loc 0) .modes) (.loc 1))
  (.cons (.asg (.fld (.loc 0) .group) (.loc 3))
  (.cons (.asg (.fld (.loc 0) .columns) (.loc 2))
  (.cons (.asg (.fld (.loc 0) .kept) (.call (.cl 2) (.cons (.loc 1) .nil) []))
  (.cons (.asg (.fld (.loc 0) .reads) (.call (.cl 3) .nil []))
  (.cons (.asg (.fld (.loc 0) .showing) (.call (.cl 5) (.cons (.loc 1) (.cons (.loc 2) .nil)) []))
  (.cons (.asg (.fld (.loc 0) .heard) (.lst .nil))
  (.cons (.asg (.fld (.loc 0) .wanted) (.lst .nil))
  (.cons (.asg (.fld (.loc 0) .written_held) (.cst (.int 0)))
  .nil)))))))))
/-- 78 -/
def f_Line_init : FD := ⟨{ args := [.self, .modes], kwo := [.columns, .group], dfl := [], kwd := [(.columns, (.int 80)), (.group, .non)] }, 4, b_Line_init⟩
def b_Line_look : Ss := (.cons (.asg (.nm 1) (.slc (.fld (.loc 0) .wanted) (.yes (.neg (.cst (.int 1)))) .no))
  (.cons (.ite (.and (.cmp .ge (.meth (.fld (.loc 0) .kept) .waiting_now .nil []) (.fld (.fld (.loc 0) .modes) .high)) (.cmp .ne (.loc 1) (.lst (.cons (.cst (.str [119, 97, 105, 116])) .nil))))
  (.cons (.ex (.meth (.fld (.loc 0) .wanted) .append (.cons (.cst (.str [119, 97, 105, 116])) .nil) []))
  .nil)
  (.cons (.ite (.and (.cmp .le (.meth (.fld (.loc 0) .kept) .waiting_now .nil []) (.fld (.fld (.loc 0) .modes) .low)) (.cmp .eq (.loc 1) (.lst (.cons (.cst (.str [119, 97, 105, 116])) .nil))))
  (.cons (.ex (.meth (.fld (.loc 0) .wanted) .append (.cons (.cst (.str [103, 111])) .nil) []))
  .nil)
  .nil)
  .nil))
  (.cons (.ex (.meth (.fld (.loc 0) .showing) .look (.cons (.ite (.and (.fld (.fld (.loc 0) .modes) .lines) (.fld (.fld (.loc 0) .modes) .echo)) (.meth (.fld (.loc 0) .kept) .tail .nil []) (.cst (.str []))) .nil) []))
  .nil)))
/-- 79 -/
def f_Line_look : FD := ⟨{ plain := true, args := [.self] }, 2, b_Line_look⟩
def b_Line_settle : Ss := (.cons (.asg (.nm 1) (.meth (.fld (.loc 0) .reads) .serve (.cons (.fld (.loc 0) .kept) .nil) []))
  (.cons (.ex (.meth (.loc 0) .look .nil []))
  (.cons (.ret (.call .tuple (.cons (.loc 1) .nil) []))
  .nil)))
/-- 80 -/
def f_Line_settle : FD := ⟨{ plain := true, args := [.self] }, 2, b_Line_settle⟩
def b_Line_hear : Ss := (.cons (.ite (.cmp .eq (.loc 1) (.cst (.str [108, 105, 116, 101, 114, 97, 108])))
  (.cons (.ex (.meth (.fld (.loc 0) .reads) .came .nil []))
  .nil)
  .nil)
  (.cons (.ite (.cmp .isin (.loc 1) (.glb 16))
  (.cons (.ex (.meth (.fld (.loc 0) .heard) .append (.cons (.tup (.cons (.loc 1) (.cons (.fld (.loc 0) .group) .nil))) .nil) []))
  (.cons (.ite (.fld (.fld (.loc 0) .modes) .flush)
  (.cons (.ex (.meth (.fld (.loc 0) .showing) .let_go .nil []))
  .nil)
  .nil)
  .nil))
  .nil)
  (.cons (.ite (.and (.fld (.fld (.loc 0) .kept) .halted) (.not (.loc 2)))
  (.cons (.asg (.fld (.loc 0) .written_held) (.cst (.int 0)))
  (.cons (.ex (.meth (.fld (.loc 0) .showing) .hold (.cons (.ite (.and (.fld (.fld (.loc 0) .modes) .lines) (.fld (.fld (.loc 0) .modes) .echo)) (.meth (.fld (.loc 0) .kept) .tail .nil []) (.cst (.str []))) .nil) []))
  .nil))
  .nil)
  (.cons (.ite (.and (.loc 2) (.not (.fld (.fld (.loc 0) .kept) .halted)))
  (.cons (.ex (.meth (.fld (.loc 0) .showing) .go_on .nil []))
  .nil)
  .nil)
  .nil))))
/-- 81 -/
def f_Line_hear : FD := ⟨{ plain := true, args := [.self, .self, .self] }, 3, b_Line_hear⟩
def b_Line_press : Ss := (.cons (.asg (.nm 2) (.lst .nil))
  (.cons (.for_ (.nm 3) (.val (.loc 1))
  (.cons (.asg (.nm 4) (.fld (.fld (.loc 0) .kept) .halted))
  (.cons (.asg (.tup (.cons (.nm 5) (.cons (.nm 6) .nil))) (.meth (.fld (.loc 0) .kept) .take (.cons (.loc 3) .nil) []))
  (.cons (.ex (.meth (.loc 0) .hear (.cons (.loc 5) (.cons (.loc 4) .nil)) []))
  (.cons (.ite (.fld (.fld (.loc 0) .modes) .echo)
  (.cons (.ex (.meth (.fld (.loc 0) .showing) .add (.cons (.loc 6) .nil) []))
  .nil)
  .nil)
  (.cons (.ex (.meth (.loc 2) .extend (.cons (.meth (.loc 0) .settle .nil []) .nil) []))
  .nil))))))
  (.cons (.ret (.call .tuple (.cons (.loc 2) .nil) []))
  .nil)))
/-- 82 -/
def f_Line_press : FD := ⟨{ args := [.self, .keys], kwo := [], dfl := [], kwd := [] }, 7, b_Line_press⟩
def b_Line_ask : Ss := (.cons (.ex (.meth (.fld (.loc 0) .reads) .add (.cons (.loc 1) (.cons (.loc 2) .nil)) []))
  (.cons (.ret (.meth (.loc 0) .settle .nil []))
  .nil))
/-- 83 -/
def f_Line_ask : FD := ⟨{ args := [.self, .reader], kwo := [.most], dfl := [], kwd := [] }, 3, b_Line_ask⟩
def b_Line_tick : Ss := (.cons (.asg (.nm 2) (.lst .nil))
  (.cons (.for_ (.nm 3) (.range (.cons (.loc 1) .nil))
  (.cons (.ex (.meth (.fld (.loc 0) .reads) .pass_tick .nil []))
  (.cons (.ex (.meth (.loc 2) .extend (.cons (.meth (.fld (.loc 0) .reads) .serve (.cons (.fld (.loc 0) .kept) .nil) []) .nil) []))
  .nil)))
  (.cons (.ex (.meth (.loc 0) .look .nil []))
  (.cons (.ret (.call .tuple (.cons (.loc 2) .nil) []))
  .nil))))
/-- 84 -/
def f_Line_tick : FD := ⟨{ args := [.self], kwo := [.times], dfl := [], kwd := [(.times, (.int 1))] }, 4, b_Line_tick⟩
def b_Line_drop : Ss := (.cons (.ex (.meth (.fld (.loc 0) .reads) .let_go (.cons (.loc 1) .nil) []))
  (.cons (.ret (.meth (.loc 0) .settle .nil []))
  .nil))
/-- 85 -/
def f_Line_drop : FD := ⟨{ args := [.self, .reader], kwo := [], dfl := [], kwd := [] }, 2, b_Line_drop⟩
def b_Line_become : Ss := (.cons (.ite (.cmp .ne (.fld (.loc 1) .tab) (.fld (.fld (.loc 0) .modes) .tab))
  (.cons .never
  .nil)
  .nil)
  (.cons (.ite (.cmp .ne (.fld (.loc 1) .wide) (.fld (.fld (.loc 0) .modes) .wide))
  (.cons .never
  .nil)
  .nil)
  (.cons (.asg (.nm 2) (.fld (.fld (.loc 0) .kept) .halted))
  (.cons (.asg (.nm 3) (.meth (.fld (.loc 0) .kept) .turn_modes (.cons (.loc 1) .nil) []))
  (.cons (.ite (.fld (.fld (.loc 0) .modes) .echo)
  (.cons (.ex (.meth (.fld (.loc 0) .showing) .add (.cons (.loc 3) .nil) []))
  .nil)
  .nil)
  (.cons (.ite (.and (.loc 2) (.not (.fld (.fld (.loc 0) .kept) .halted)))
  (.cons (.ex (.meth (.fld (.loc 0) .showing) .go_on .nil []))
  .nil)
  .nil)
  (.cons (.asg (.fld (.loc 0) .modes) (.loc 1))
  (.cons (.ret (.meth (.loc 0) .settle .nil []))
  .nil))))))))
/-- 86 -/
def f_Line_become : FD := ⟨{ args := [.self, .modes], kwo := [], dfl := [], kwd := [] }, 4, b_Line_become⟩
def b_Line_lead : Ss := (.cons (.asg (.fld (.loc 0) .group) (.loc 1))
  (.cons (.ret (.meth (.loc 0) .settle .nil []))
  .nil))
/-- 87 -/
def f_Line_lead : FD := ⟨{ args := [.self, .group], kwo := [], dfl := [], kwd := [] }, 2, b_Line_lead⟩
def b_Line_resize : Ss := (.cons (.asg (.fld (.loc 0) .columns) (.loc 1))
  (.cons (.ex (.meth (.fld (.loc 0) .showing) .turn (.cons (.loc 1) .nil) []))
  (.cons (.ret (.meth (.loc 0) .settle .nil []))
  .nil)))
/-- 88 -/
def f_Line_resize : FD := ⟨{ args := [.self, .columns], kwo := [], dfl := [], kwd := [] }, 2, b_Line_resize⟩
def b_Line_write : Ss := (.cons (.asg (.nm 2) (.loc 1))
  (.cons (.ite (.fld (.fld (.loc 0) .kept) .halted)
  (.cons (.asg (.nm 2) (.slc (.loc 1) .no (.yes (.bin .sub (.glb 19) (.fld (.loc 0) .written_held)))))
  (.cons (.aug (.fld (.loc 0) .written_held) .add (.call .len (.cons (.loc 2) .nil) []))
  .nil))
  .nil)
  (.cons (.ex (.meth (.fld (.loc 0) .showing) .add (.cons (.loc 2) .nil) []))
  (.cons (.ex (.meth (.loc 0) .look .nil []))
  (.cons (.ret (.call .len (.cons (.loc 2) .nil) []))
  .nil)))))
/-- 89 -/
def f_Line_write : FD := ⟨{ args := [.self, .text], kwo := [], dfl := [], kwd := [] }, 3, b_Line_write⟩
def b_Line_calls : Ss := (.cons (.ret (.call .tuple (.cons (.fld (.loc 0) .heard) .nil) []))
  .nil)
/-- 90 -/
def f_Line_calls : FD := ⟨{ plain := true, args := [.self] }, 1, b_Line_calls⟩
def b_Line_asks : Ss := (.cons (.ret (.call .tuple (.cons (.fld (.loc 0) .wanted) .nil) []))
  .nil)
/-- 91 -/
def f_Line_asks : FD := ⟨{ plain := true, args := [.self] }, 1, b_Line_asks⟩
def b_Line_books : Ss := (.cons (.ret (.meth (.fld (.loc 0) .kept) .books .nil []))
  .nil)
/-- 92 -/
def f_Line_books : FD := ⟨{ plain := true, args := [.self] }, 1, b_Line_books⟩
def b_Line_waits : Ss := (.cons (.asg (.nm 1) (.fld (.loc 0) .kept))
  (.cons (.ret (.tup (.cons (.call .tuple (.cons (.fld (.loc 1) .lines) .nil) []) (.cons (.meth (.cst (.str [])) .join (.cons (.fld (.loc 1) .loose) .nil) []) (.cons (.fld (.loc 1) .typed) (.cons (.fld (.loc 1) .quoting) (.cons (.fld (.loc 1) .halted) (.cons (.meth (.fld (.loc 0) .reads) .waiting .nil []) .nil))))))))
  .nil))
/-- 93 -/
def f_Line_waits : FD := ⟨{ plain := true, args := [.self] }, 2, b_Line_waits⟩
def b_Line_good : Ss := (.cons (.ret (.meth (.fld (.loc 0) .showing) .good .nil []))
  .nil)
/-- 94 -/
def f_Line_good : FD := ⟨{ plain := true, args := [.self] }, 1, b_Line_good⟩
def b_Line_all_shown : Ss := (.cons (.ret (.meth (.fld (.loc 0) .showing) .all_shown .nil []))
  .nil)
/-- 95 -/
def f_Line_all_shown : FD := ⟨{ plain := true, args := [.self] }, 1, b_Line_all_shown⟩
def b_Line_screen : Ss := (.cons (.ret (.meth (.fld (.loc 0) .showing) .screen .nil []))
  .nil)
/-- 96 -/
def f_Line_screen : FD := ⟨{ plain := true, args := [.self] }, 1, b_Line_screen⟩
def b_Line_deeds : Ss := (.cons (.ret (.meth (.fld (.loc 0) .showing) .deeds .nil []))
  .nil)
/-- 97 -/
def f_Line_deeds : FD := ⟨{ plain := true, args := [.self] }, 1, b_Line_deeds⟩
def b_is_special : Ss := (.cons (.ite (.cmp .eq (.loc 1) (.cst (.str [10])))
  (.cons (.ret (.cst (.bl true)))
  .nil)
  .nil)
  (.cons (.asg (.nm 2) (.meth (.loc 0) .name_of (.cons (.loc 1) .nil) []))
  (.cons (.ret (.or (.cmp .isin (.loc 2) (.glb 20)) (.or (.and (.fld (.loc 0) .flow) (.cmp .isin (.loc 2) (.glb 15))) (.and (.fld (.loc 0) .signals) (.cmp .isin (.loc 2) (.glb 16))))))
  .nil)))
/-- 98 -/
def f_is_special : FD := ⟨{ plain := true, args := [.self, .self] }, 3, b_is_special⟩
def b_literals : Ss := (.cons (.asg (.nm 2) (.meth (.loc 0) .key (.cons (.cst (.str [113, 117, 111, 116, 101])) .nil) []))
  (.cons (.asg (.nm 3) (.lst .nil))
  (.cons (.for_ (.nm 4) (.val (.loc 1))
  (.cons (.ite (.call (.df 98) (.cons (.loc 0) (.cons (.loc 4) .nil)) [])
  (.cons (.ite (.cmp .isn (.loc 2) (.cst .non))
  (.cons (.ret (.cst .non))
  .nil)
  .nil)
  (.cons (.ex (.meth (.loc 3) .append (.cons (.loc 2) .nil) []))
  .nil))
  .nil)
  (.cons (.ex (.meth (.loc 3) .append (.cons (.loc 4) .nil) []))
  .nil)))
  (.cons (.ret (.meth (.cst (.str [])) .join (.cons (.loc 3) .nil) []))
  .nil))))
/-- 99 -/
def f_literals : FD := ⟨{ plain := true, args := [.self, .self] }, 5, b_literals⟩
def b_keys_for : Ss := (.cons (.ite (.or (.not (.fld (.loc 0) .lines)) (.cmp .eq (.loc 1) (.cst (.str []))))
  (.cons (.ret (.cst .non))
  .nil)
  .nil)
  (.cons (.asg (.nm 2) (.meth (.loc 1) .endswith (.cons (.cst (.str [10])) .nil) []))
  (.cons (.asg (.nm 3) (.ite (.loc 2) (.cst (.str [10])) (.meth (.loc 0) .key (.cons (.cst (.str [101, 110, 100])) .nil) [])))
  (.cons (.asg (.nm 4) (.ite (.loc 2) (.slc (.loc 1) .no (.yes (.neg (.cst (.int 1))))) (.loc 1)))
  (.cons (.asg (.nm 5) (.call (.df 99) (.cons (.loc 0) (.cons (.loc 4) .nil)) []))
  (.cons (.ite (.or (.cmp .isn (.loc 3) (.cst .non)) (.or (.cmp .isn (.loc 5) (.cst .non)) (.cmp .gt (.call .len (.cons (.loc 4) .nil) []) (.fld (.loc 0) .room))))
  (.cons (.ret (.cst .non))
  .nil)
  .nil)
  (.cons (.ret (.bin .add (.loc 5) (.loc 3)))
  .nil)))))))
/-- 100 -/
def f_keys_for : FD := ⟨{ args := [.modes, .text], kwo := [], dfl := [], kwd := [] }, 6, b_keys_for⟩
def b_can_get : Ss := (.cons (.ret (.cmp .notn (.call (.df 100) (.cons (.loc 0) (.cons (.loc 1) .nil)) []) (.cst .non)))
  .nil)
/-- 101 -/
def f_can_get : FD := ⟨{ args := [.modes, .text], kwo := [], dfl := [], kwd := [] }, 2, b_can_get⟩
def b_gets : Ss := (.cons (.ite (.not (.fld (.loc 0) .lines))
  (.cons (.ret (.cst .non))
  .nil)
  .nil)
  (.cons (.asg (.nm 2) (.call (.cl 6) (.cons (.loc 0) .nil) []))
  (.cons (.ex (.meth (.loc 2) .press (.cons (.loc 1) .nil) []))
  (.cons (.asg (.stup (.cons (.nm 3) .nil) 4) (.bin .add (.idx (.meth (.loc 2) .waits .nil []) (.cst (.int 0))) (.tup (.cons (.cst .non) .nil))))
  (.cons (.ret (.loc 3))
  .nil)))))
/-- 102 -/
def f_gets : FD := ⟨{ args := [.modes, .keys], kwo := [], dfl := [], kwd := [] }, 5, b_gets⟩
def b_ways_back : Ss := (.cons (.asg (.nm 2) (.dct (.cons (.call .len (.cons (.loc 1) .nil) []) (.cons (.cst (.str [])) .nil))))
  (.cons (.asg (.nm 3) (.lst (.cons (.call .len (.cons (.loc 1) .nil) []) .nil)))
  (.cons (.whl (.cmp .gt (.call .len (.cons (.loc 3) .nil) []) (.cst (.int 0)))
  (.cons (.asg (.stup (.cons (.nm 5) .nil) 3) (.loc 3))
  (.cons (.for_ (.nm 4) (.val (.glb 21))
  (.cons (.asg (.nm 6) (.meth (.loc 0) .key (.cons (.loc 4) .nil) []))
  (.cons (.ite (.cmp .notn (.loc 6) (.cst .non))
  (.cons (.asg (.nm 7) (.call .len (.cons (.call (.df 19) (.cons (.loc 0) (.cons (.slc (.loc 1) .no (.yes (.loc 5))) (.cons (.loc 6) .nil))) []) .nil) []))
  (.cons (.ite (.cmp .notin (.loc 7) (.loc 2))
  (.cons (.asg (.idx (.loc 2) (.loc 7)) (.bin .add (.idx (.loc 2) (.loc 5)) (.loc 6)))
  (.cons (.ex (.meth (.loc 3) .append (.cons (.loc 7) .nil) []))
  .nil))
  .nil)
  .nil))
  .nil)
  .nil)))
  .nil)))
  (.cons (.ret (.loc 2))
  .nil))))
/-- 103 -/
def f_ways_back : FD := ⟨{ plain := true, args := [.self, .self] }, 8, b_ways_back⟩
def b_keys_to : Ss := (.cons (.asg (.nm 3) (.cst .non))
  (.cons (.for_ (.tup (.cons (.nm 4) (.cons (.nm 5) .nil))) (.items (.call (.df 103) (.cons (.loc 0) (.cons (.loc 1) .nil)) []))
  (.cons (.ite (.and (.cmp .le (.loc 4) (.call .len (.cons (.loc 2) .nil) [])) (.cmp .eq (.slc (.loc 2) .no (.yes (.loc 4))) (.slc (.loc 1) .no (.yes (.loc 4)))))
  (.cons (.asg (.nm 6) (.call (.df 99) (.cons (.loc 0) (.cons (.slc (.loc 2) (.yes (.loc 4)) .no) .nil)) []))
  (.cons (.ite (.and (.cmp .notn (.loc 6) (.cst .non)) (.or (.cmp .isn (.loc 3) (.cst .non)) (.cmp .lt (.call .len (.cons (.bin .add (.loc 5) (.loc 6)) .nil) []) (.call .len (.cons (.loc 3) .nil) []))))
  (.cons (.asg (.nm 3) (.bin .add (.loc 5) (.loc 6)))
  .nil)
  .nil)
  .nil))
  .nil)
  .nil))
  (.cons (.ret (.loc 3))
  .nil)))
/-- 104 -/
def f_keys_to : FD := ⟨{ args := [.modes, .line, .goal], kwo := [], dfl := [], kwd := [] }, 7, b_keys_to⟩
def b_is_plain : Ss := (.cons (.ret (.and (.chain .le .le (.cst (.str [32])) (.loc 0) (.cst (.str [126]))) (.and (.cmp .ne (.call .ord (.cons (.loc 0) .nil) []) (.glb 7)) (.cmp .ne (.loc 0) (.cst (.str [47]))))))
  .nil)
/-- 105 -/
def f_is_plain : FD := ⟨{ plain := true, args := [.self] }, 1, b_is_plain⟩
def b_signs_read : Ss := (.cons (.asg (.tup (.cons (.nm 1) (.cons (.nm 2) .nil))) (.tup (.cons (.cst (.str [])) (.cons (.loc 0) .nil))))
  (.cons (.whl (.cmp .ne (.loc 2) (.cst (.str [])))
  (.cons .never
  .nil))
  (.cons (.ret (.tup (.cons (.loc 1) .nil)))
  .nil)))
/-- 106 -/
def f_signs_read : FD := ⟨{ plain := true, args := [.self] }, 3, b_signs_read⟩
def b_is_called : Ss := (.cons (.ite (.or (.not (.chain .le .le (.cst (.int 1)) (.call .len (.cons (.loc 0) .nil) []) (.glb 23))) (.cmp .eq (.loc 0) (.glb 24)))
  (.cons (.ret (.cst (.bl false)))
  .nil)
  .nil)
  (.cons (.ret (.call .all (.cons (.comp (.cmp .isin (.loc 1) (.glb 22)) (.nm 1) (.val (.loc 0)) .no [1]) .nil) []))
  .nil))
/-- 107 -/
def f_is_called : FD := ⟨{ plain := true, args := [.self] }, 2, b_is_called⟩
def b_number_written : Ss := (.cons (.ite (.or (.not (.chain .le .le (.cst (.int 1)) (.call .len (.cons (.loc 0) .nil) []) (.glb 11))) (.not (.call .all (.cons (.comp (.cmp .isin (.loc 1) (.glb 10)) (.nm 1) (.val (.loc 0)) .no [1]) .nil) [])))
  (.cons (.ret (.cst .non))
  .nil)
  .nil)
  (.cons (.ret (.ite (.or (.cmp .eq (.loc 0) (.cst (.str [48]))) (.cmp .ne (.idx (.loc 0) (.cst (.int 0))) (.cst (.str [48])))) (.call .int (.cons (.loc 0) .nil) []) (.cst .non)))
  .nil))
/-- 108 -/
def f_number_written : FD := ⟨{ plain := true, args := [.self] }, 2, b_number_written⟩
def b_ask_read : Ss := (.cons (.asg (.stup (.cons (.nm 1) .nil) 2) (.meth (.loc 0) .split (.cons (.cst (.str [32])) .nil) []))
  (.cons (.ite (.or (.cmp .ne (.call .len (.cons (.loc 2) .nil) []) (.cst (.int 1))) (.or (.not (.call (.df 107) (.cons (.loc 1) .nil) [])) (.cmp .isn (.call (.df 108) (.cons (.idx (.loc 2) (.cst (.int 0))) .nil) []) (.cst .non))))
  (.cons (.ret (.cst .non))
  .nil)
  .nil)
  (.cons (.ret (.tup (.cons (.loc 1) (.cons (.call (.df 108) (.cons (.idx (.loc 2) (.cst (.int 0))) .nil) []) .nil))))
  .nil)))
/-- 109 -/
def f_ask_read : FD := ⟨{ plain := true, args := [.self] }, 3, b_ask_read⟩
def b_number_read : Ss := (.cons (.asg (.nm 1) (.call (.df 108) (.cons (.loc 0) .nil) []))
  (.cons (.ret (.ite (.cmp .isn (.loc 1) (.cst .non)) (.cst .non) (.tup (.cons (.loc 1) .nil))))
  .nil))
/-- 110 -/
def f_number_read : FD := ⟨{ plain := true, args := [.self] }, 2, b_number_read⟩
def b_words_read : Ss := (.cons (.ret (.tup (.cons (.loc 0) .nil)))
  .nil)
/-- 111 -/
def f_words_read : FD := ⟨{ plain := true, args := [.self] }, 1, b_words_read⟩
def b_lead_read : Ss := (.cons (.ite (.cmp .eq (.loc 0) (.glb 24))
  (.cons (.ret (.tup (.cons (.cst .non) .nil)))
  .nil)
  .nil)
  (.cons (.ret (.ite (.call (.df 107) (.cons (.loc 0) .nil) []) (.tup (.cons (.loc 0) .nil)) (.cst .non)))
  .nil))
/-- 112 -/
def f_lead_read : FD := ⟨{ plain := true, args := [.self] }, 1, b_lead_read⟩
def b_name_read : Ss := (.cons (.ret (.ite (.call (.df 107) (.cons (.loc 0) .nil) []) (.tup (.cons (.loc 0) .nil)) (.cst .non)))
  .nil)
/-- 113 -/
def f_name_read : FD := ⟨{ plain := true, args := [.self] }, 1, b_name_read⟩
def b_read_deed : Ss := (.cons (.ite (.or (.not (.call (.isinst .str) (.cons (.loc 0) .nil) [])) (.cmp .isin (.cst (.str [10])) (.loc 0)))
  (.cons .never
  .nil)
  .nil)
  (.cons (.asg (.tup (.cons (.nm 3) (.cons (.nm 4) (.cons (.nm 5) .nil)))) (.meth (.loc 0) .partition (.cons (.cst (.str [32])) .nil) []))
  (.cons .never
  (.cons .never
  (.cons .never
  (.cons (.ite (.cmp .isn (.loc 2) (.cst .non))
  (.cons .never
  .nil)
  .nil)
  (.cons (.ret (.bin .add (.tup (.cons (.loc 3) .nil)) (.loc 2)))
  .nil)))))))
/-- 114 -/
def f_read_deed : FD := ⟨{ args := [.text], kwo := [], dfl := [], kwd := [] }, 6, b_read_deed⟩
def b_signs_written : Ss := (.cons (.ret (.repl (.repl (.repl (.loc 0) 47 [47, 47]) 10 [47, 110]) 9 [47, 116]))
  .nil)
/-- 115 -/
def f_signs_written : FD := ⟨{ plain := true, args := [.self] }, 1, b_signs_written⟩
def b_show_deed : Ss := (.cons (.asg (.stup (.cons (.nm 1) .nil) 2) (.loc 0))
  (.cons (.ite (.cmp .isin (.loc 1) (.tup (.cons (.cst (.str [112, 114, 101, 115, 115])) (.cons (.cst (.str [119, 114, 105, 116, 101])) .nil))))
  (.cons .never
  .nil)
  .nil)
  (.cons (.ite (.and (.cmp .eq (.loc 1) (.cst (.str [108, 101, 97, 100]))) (.cmp .isn (.idx (.loc 2) (.cst (.int 0))) (.cst .non)))
  (.cons .never
  .nil)
  .nil)
  (.cons (.ret (.meth (.cst (.str [32])) .join (.cons (.bin .add (.lst (.cons (.loc 1) .nil)) (.comp (.call .str (.cons (.loc 3) .nil) []) (.nm 3) (.val (.loc 2)) .no [3])) .nil) []))
  .nil))))
/-- 116 -/
def f_show_deed : FD := ⟨{ args := [.deed], kwo := [], dfl := [], kwd := [] }, 4, b_show_deed⟩
def b_look_at_number : Ss := (.cons (.ite (.not (.chain .le .le (.loc 1) (.loc 0) (.loc 2)))
  (.cons .never
  .nil)
  .nil)
  .nil)
/-- 117 -/
def f_look_at_number : FD := ⟨{ plain := true, args := [.self, .self, .self] }, 3, b_look_at_number⟩
def b_press_done : Ss := (.cons (.ret (.meth (.loc 0) .press (.cons (.loc 1) .nil) []))
  .nil)
/-- 118 -/
def f_press_done : FD := ⟨{ plain := true, args := [.self, .self] }, 2, b_press_done⟩
def b_ask_done : Ss := (.cons (.ex (.call (.df 117) (.cons (.loc 2) (.cons (.cst (.int 1)) (.cons (.glb 26) .nil))) []))
  (.cons (.ret (.meth (.loc 0) .ask (.cons (.loc 1) (.cons (.loc 2) .nil)) [.most]))
  .nil))
/-- 119 -/
def f_ask_done : FD := ⟨{ plain := true, args := [.self, .self, .self] }, 3, b_ask_done⟩
def b_tick_done : Ss := (.cons (.ex (.call (.df 117) (.cons (.loc 1) (.cons (.cst (.int 1)) (.cons (.glb 8) .nil))) []))
  (.cons (.ret (.meth (.loc 0) .tick (.cons (.loc 1) .nil) [.times]))
  .nil))
/-- 120 -/
def f_tick_done : FD := ⟨{ plain := true, args := [.self, .self] }, 2, b_tick_done⟩
def b_modes_done : Ss := (.cons (.ret (.meth (.loc 0) .become (.cons (.call (.df 17) (.cons (.fld (.loc 0) .modes) (.cons (.loc 1) .nil)) []) .nil) []))
  .nil)
/-- 121 -/
def f_modes_done : FD := ⟨{ plain := true, args := [.self, .self] }, 2, b_modes_done⟩
def b_lead_done : Ss := (.cons (.ret (.meth (.loc 0) .lead (.cons (.loc 1) .nil) []))
  .nil)
/-- 122 -/
def f_lead_done : FD := ⟨{ plain := true, args := [.self, .self] }, 2, b_lead_done⟩
def b_size_done : Ss := (.cons (.ex (.call (.df 117) (.cons (.loc 1) (.cons (.glb 27) (.cons (.glb 28) .nil))) []))
  (.cons (.ret (.meth (.loc 0) .resize (.cons (.loc 1) .nil) []))
  .nil))
/-- 123 -/
def f_size_done : FD := ⟨{ plain := true, args := [.self, .self] }, 2, b_size_done⟩
def b_write_done : Ss := (.cons (.ret (.meth (.loc 0) .write (.cons (.loc 1) .nil) []))
  .nil)
/-- 124 -/
def f_write_done : FD := ⟨{ plain := true, args := [.self, .self] }, 2, b_write_done⟩
def b_drop_done : Ss := (.cons (.ret (.meth (.loc 0) .drop (.cons (.loc 1) .nil) []))
  .nil)
/-- 125 -/
def f_drop_done : FD := ⟨{ plain := true, args := [.self, .self] }, 2, b_drop_done⟩
def b_deed_done : Ss := (.cons (.asg (.stup (.cons (.nm 3) .nil) 4) (.loc 1))
  (.cons (.ite (.cmp .eq (.loc 3) (.cst (.str [97, 115, 107])))
  (.cons (.ret (.call (.df 119) (.cons (.loc 0) (.cons (.idx (.loc 4) (.cst (.int 0))) (.cons (.idx (.loc 4) (.cst (.int 1))) .nil))) []))
  .nil)
  .nil)
  (.cons .never
  (.cons .never
  .nil))))
/-- 126 -/
def f_deed_done : FD := ⟨{ plain := true, args := [.self, .self] }, 5, b_deed_done⟩
def b_Play_init : Ss := (.cons (.asg (.fld (.loc 0) .line) (.call (.cl 6) (.cons (.loc 1) (.cons (.loc 2) .nil)) [.columns]))
  (.cons (.asg (.fld (.loc 0) .log) (.lst .nil))
  (.cons (.asg (.fld (.loc 0) .under_way) (.cst (.int 0)))
  .nil)))
/-- 127 -/
def f_Play_init : FD := ⟨{ args := [.self, .modes], kwo := [.columns], dfl := [], kwd := [(.columns, (.int 80))] }, 3, b_Play_init⟩
def b_Play_do : Ss := (.cons (.aug (.fld (.loc 0) .under_way) .add (.cst (.int 1)))
  (.cons (.asg (.nm 2) (.glb 25))
  (.cons .never
  (.cons (.ret (.loc 2))
  .nil))))
/-- 128 -/
def f_Play_do : FD := ⟨{ args := [.self, .text], kwo := [], dfl := [], kwd := [] }, 3, b_Play_do⟩
def b_Play_run : Ss := (.cons (.asg (.nm 3) (.lst .nil))
  (.cons (.for_ (.nm 4) (.val (.meth (.loc 1) .split (.cons (.cst (.str [10])) .nil) []))
  (.cons .never
  .nil))
  (.cons (.ret (.call .tuple (.cons (.loc 3) .nil) []))
  .nil)))
/-- 129 -/
def f_Play_run : FD := ⟨{ args := [.self, .text], kwo := [.strict], dfl := [], kwd := [(.strict, (.bl true))] }, 5, b_Play_run⟩
def b_Play_depth : Ss := (.cons (.ret (.fld (.loc 0) .under_way))
  .nil)
/-- 130 -/
def f_Play_depth : FD := ⟨{ plain := true, args := [.self] }, 1, b_Play_depth⟩
def c_Modes : CD := { init := some 7, meths := [(.__str__, 9), (.__repr__, 10), (.key, 11), (.name_of, 12)], eq := some 8 }
def c_Waiting : CD := { init := some 30, meths := [(.let_go, 31), (.put, 32), (.finish, 33), (.key_taken, 34)] }
def c_Keeping : CD := { init := some 36, meths := [(.tail, 37), (.waiting_now, 38), (.books, 39), (.take, 40), (.take_literal, 41), (.finish, 42), (.signal, 43), (.give_line, 44), (.give_loose, 45), (.turn_modes, 46)] }
def c_Reads : CD := { init := some 47, meths := [(.add, 48), (.pass_tick, 49), (.came, 50), (.let_go, 51), (.waiting, 52), (.is_paused, 53), (.can_be_loose, 54), (.can_be, 55), (.serve, 56)] }
def c_Screen : CD := { init := some 57, meths := [(.«show», 59), (.«back», 60), (.rows, 61), (.«where», 62)], eq := some 58 }
def c_Showing : CD := { init := some 64, meths := [(.add, 65), (.hold, 66), (.go_on, 67), (.let_go, 68), (.now_shown, 69), (.see, 70), (.look, 71), (.turn, 72), (.good, 73), (.all_shown, 74), (.screen, 75), (.deeds, 76)] }
def c_Line : CD := { init := some 78, meths := [(.look, 79), (.settle, 80), (.hear, 81), (.press, 82), (.ask, 83), (.tick, 84), (.drop, 85), (.become, 86), (.lead, 87), (.resize, 88), (.write, 89), (.calls, 90), (.asks, 91), (.books, 92), (.waits, 93), (.good, 94), (.all_shown, 95), (.screen, 96), (.deeds, 97)] }
def c_Play : CD := { init := some 127, meths := [(.«do», 128), (.«run», 129), (.depth, 130)] }
def clss : List CD := [c_Modes, c_Waiting, c_Keeping, c_Reads, c_Screen, c_Showing, c_Line, c_Play]
def glb : List D := [(.tup [(.str [101, 114, 97, 115, 101]), (.str [107, 105, 108, 108]), (.str [119, 111, 114, 100]), (.str [113, 117, 111, 116, 101]), (.str [101, 110, 100]), (.str [115, 116, 111, 112]), (.str [115, 116, 97, 114, 116]), (.str [99, 117, 116]), (.str [113, 117, 105, 116]), (.str [97, 103, 97, 105, 110])]), (.str [35, 64, 42, 94, 33, 40, 41, 60, 62, 38]), (.int 32), (.int 24), (.int 8), (.str [32]), (.int 126), (.int 37), (.int 99), (.int 16), (.str [48, 49, 50, 51, 52, 53, 54, 55, 56, 57]), (.int 3), (.tup [(.str [101, 99, 104, 111]), (.str [115, 105, 103, 110, 97, 108, 115]), (.str [102, 108, 111, 119]), (.str [102, 108, 117, 115, 104])]), (.tup [(.str [108, 101, 97, 115, 116]), (.str [112, 97, 117, 115, 101]), (.str [114, 111, 111, 109]), (.str [104, 105, 103, 104]), (.str [108, 111, 119]), (.str [116, 97, 98])]), (.tup [(.str [101, 114, 97, 115, 101]), (.str [107, 105, 108, 108]), (.str [119, 111, 114, 100])]), (.tup [(.str [115, 116, 111, 112]), (.str [115, 116, 97, 114, 116])]), (.tup [(.str [99, 117, 116]), (.str [113, 117, 105, 116])]), (.tup [(.str [101, 114, 97, 115, 101]), (.str [107, 105, 108, 108]), (.str [119, 111, 114, 100]), (.str [97, 103, 97, 105, 110]), (.str [113, 117, 111, 116, 101]), (.str [101, 110, 100])]), (.str [10]), (.int 64), (.tup [(.str [101, 114, 97, 115, 101]), (.str [107, 105, 108, 108]), (.str [119, 111, 114, 100]), (.str [113, 117, 111, 116, 101]), (.str [101, 110, 100]), (.str [97, 103, 97, 105, 110])]), (.tup [(.str [101, 114, 97, 115, 101]), (.str [119, 111, 114, 100]), (.str [107, 105, 108, 108])]), (.str [97, 98, 99, 100, 101, 102, 103, 104, 105, 106, 107, 108, 109, 110, 111, 112, 113, 114, 115, 116, 117, 118, 119, 120, 121, 122]), (.int 6), (.str [110, 111, 110, 101]), (.str [114, 101, 102, 117, 115, 101, 100]), (.int 999), (.int 2), (.int 200)]
-- NOTE Modes.__repr__ line 113: JoinedStr
-- NOTE thing_of line 31: constant ANSWERS
-- NOTE told_by line 43: constant LINES
-- NOTE signs_read line 23: constant STROKES
-- NOTE read_deed line 89: call of a local
-- NOTE read_deed line 88: name DEED_READERS as value
-- NOTE read_deed line 86: name DEED_READERS as value
-- NOTE show_deed line 106: JoinedStr
-- NOTE show_deed line 104: JoinedStr
-- NOTE deed_done line 74: call of a local
-- NOTE deed_done line 73: name PLAY_DEEDS as value
-- NOTE Play.do line 89: Try
-- NOTE Play.run line 100: Try
end Pg
set_option Elab.async false
set_option linter.all false
set_option maxRecDepth 100000
set_option maxHeartbeats 1000000
namespace Sp
open Ev Pg
variable {tab : Tab} {fuel : Nat} {shows : Dt → Option Txt} {n : Nat} {h : Heap}
def cellsOf (c at_ w t : Nat) (far : Txt) : List Txt :=
  if c = 10 then List.replicate (w - at_ % w) [32]
  else if c = 9 then List.replicate (min (t - at_ % w % t) (w - at_ % w)) [32]
  else if far.contains c then (if w - at_ % w = 1 then [[32]] else []) ++ [[c], []]
  else [[c]]
theorem cells_of_sp {c at_ w t : Nat} {far : Txt} (hd : tab.defs[22]? = some f_cells_of) (hw : 0 < w) (ht : 0 < t) (hb : w ≤ 1000) :
    @Wp D (callK tab fuel shows (n + 1) 22 [.str [c], .int at_, .int w, .int t, .str far] h) ⟨fun d h' => ∃ a, d = .ref a ∧ h'.get a = some (.lst ((cellsOf c at_ w t far).map .str)) ∧ Ext h h' ∧ h.size ≤ a⟩ := by
  refine w_def hd ⟨rfl, by simp [f_cells_of]⟩ ?_
  have m1 := Nat.mod_lt at_ hw
  have m2 := Nat.mod_lt (at_ % w) ht
  have e1 : (w : Int) - (at_ : Int) % (w : Int) = ((w - at_ % w : Nat) : Int) := by omega
  have e2 : (t : Int) - (at_ : Int) % (w : Int) % (t : Int) = ((t - at_ % w % t : Nat) : Int) := by rw [← Int.natCast_emod, ← Int.natCast_emod]; omega
  simp (maxDischargeDepth := 20) [f_cells_of, b_cells_of, e1, e2, isInfix_one]
  have e3 : (if w - at_ % w < t - at_ % w % t then ((w - at_ % w : Nat) : Int) else ((t - at_ % w % t : Nat) : Int)) = ((min (t - at_ % w % t) (w - at_ % w) : Nat) : Int) := by split <;> omega
  rw [e3]
  simp only [rep_nat]
  refine ⟨hw, fun c1 => ⟨by omega, ?_⟩, fun c1 => ⟨fun c2 => ⟨ht, by omega, ?_⟩, fun c2 => ⟨fun c3 => ⟨fun c4 => ?_, fun c4 => ?_⟩, fun c3 => ?_⟩⟩⟩
  · simp [cellsOf, c1]
  · simp [cellsOf, c1, c2]
  · have : w - at_ % w = 1 := by omega
    simp [cellsOf, c1, c2, c3, this]
  · have : ¬ w - at_ % w = 1 := by omega
    simp [cellsOf, c1, c2, c3, this]
  · simp [cellsOf, c1, c2, c3]
theorem cellsOf_len (c at_ w t : Nat) (far : Txt) (hw : 2 ≤ w) : (cellsOf c at_ w t far).length ≤ w + 1 := by
  unfold cellsOf
  split
  · simp; omega
  · split
    · simp; omega
    · split
      · split <;> simp <;> omega
      · simp
def allCells (at_ w t : Nat) (far text : Txt) : List Txt := text.foldl (fun acc c => acc ++ cellsOf c (at_ + acc.length) w t far) []
theorem foldl_len (at_ w t : Nat) (far : Txt) (hw : 2 ≤ w) : ∀ (text : Txt) (acc : List Txt), (text.foldl (fun acc c => acc ++ cellsOf c (at_ + acc.length) w t far) acc).length ≤ acc.length + text.length * (w + 1)
  | [], acc => by simp
  | c :: text, acc => by
    have ih := foldl_len at_ w t far hw text (acc ++ cellsOf c (at_ + acc.length) w t far)
    have := cellsOf_len c (at_ + acc.length) w t far hw
    rw [List.foldl_cons, List.length_cons, Nat.succ_mul]
    rw [List.length_append] at ih
    omega
theorem all_cells_sp {at_ w t : Nat} {far text : Txt} (hd2 : tab.defs[22]? = some f_cells_of) (hd : tab.defs[23]? = some f_all_cells) (hw : 2 ≤ w) (ht : 0 < t) (hb : w ≤ 1000) (hl : text.length ≤ 16000) :
    @Wp D (callK tab fuel shows (n + 2) 23 [.str text, .int at_, .int w, .int t, .str far] h) ⟨fun d h' => ∃ a, d = .ref a ∧ h'.get a = some (.lst ((allCells at_ w t far text).map .str)) ∧ Ext h h' ∧ h.size ≤ a⟩ := by
  refine w_def hd ⟨rfl, by simp [f_all_cells]⟩ ?_
  simp (maxDischargeDepth := 20) [f_all_cells, b_all_cells]
  refine for_map text (fun c => .str [c]) (fun p v h' => (∃ o, v = [some (.str text), some (.int at_), some (.int w), some (.int t), some (.str far), some (.ref h.size), o]) ∧ h'.get h.size = some (.lst ((allCells at_ w t far p).map .str)) ∧ Ext h h') (by simp [Src.len]) (fun p v h' i _ => by simp [Src.nxt]) ⟨⟨_, rfl⟩, by simp [allCells], by simp⟩ ?_ ?_
  · rintro p c r v h' e ⟨⟨o, rfl⟩, g, ex⟩
    have lp : p.length < text.length := by rw [e]; simp
    have l1 := foldl_len at_ w t far hw p []
    have l2 := cellsOf_len c (at_ + (allCells at_ w t far p).length) w t far hw
    have l3 : p.length * (w + 1) ≤ 16000 * 1001 := Nat.mul_le_mul (by omega) (by omega)
    simp only [List.length_nil, Nat.zero_add] at l1
    change (allCells at_ w t far p).length ≤ _ at l1
    simp [g]
    have ea : (at_ : Int) + ((allCells at_ w t far p).length : Int) = ((at_ + (allCells at_ w t far p).length : Nat) : Int) := by omega
    rw [ea]
    refine call_plain hd2 rfl rfl (cells_of_sp hd2 (by omega) ht hb) ?_
    rintro d h2 ⟨a, rfl, ga, ex2, la⟩
    have g2 := Ext.get ex2 g
    simp (maxDischargeDepth := 20) [g, g2, ga]
    refine ⟨by omega, ?_, Ext.put _ (ex.tr ex2) (Nat.le_refl _)⟩
    simp [allCells]
  · rintro v h' ⟨⟨o, rfl⟩, g, ex⟩
    simp [g, ex]
theorem allCells_len (at_ w t : Nat) (far text : Txt) (hw : 2 ≤ w) (hb : w ≤ 1000) (hl : text.length ≤ 16000) : (allCells at_ w t far text).length ≤ 16016000 := by
  have l1 := foldl_len at_ w t far hw text []
  have l3 : text.length * (w + 1) ≤ 16000 * 1001 := Nat.mul_le_mul hl (by omega)
  simp only [List.length_nil, Nat.zero_add] at l1
  unfold allCells
  omega
def rowsOf (things : List Txt) (w : Nat) : List (List Txt) :=
  (List.range (things.length / w + 1)).map fun i => ((things ++ List.replicate ((things.length / w + 1) * w - things.length) [32]).drop (i * w)).take w
theorem in_rows_sp {things : List Txt} {w a : Nat} (hd : tab.defs[24]? = some f_in_rows) (hw : 2 ≤ w) (hb : w ≤ 1000) (ga : h.get a = some (.lst (things.map .str))) (hl : things.length ≤ 16016000) :
    @Wp D (callK tab fuel shows (n + 1) 24 [.ref a, .int w] h) ⟨fun d h' => d = .tup ((rowsOf things w).map fun r => .tup (r.map .str)) ∧ Ext h h'⟩ := by
  refine w_def hd ⟨rfl, by simp [f_in_rows]⟩ ?_
  have lt : things.length < (things.length / w + 1) * w := by
    have := Nat.div_add_mod things.length w
    have h2 := Nat.mod_lt things.length (show 0 < w by omega)
    rw [Nat.succ_mul, Nat.mul_comm]; omega
  have le2 : (things.length / w + 1) * w ≤ things.length + w := by
    have := Nat.div_add_mod things.length w
    rw [Nat.succ_mul, Nat.mul_comm]; omega
  have e0 : (things.length : Int) / (w : Int) + 1 = ((things.length / w + 1 : Nat) : Int) := by rw [Int.natCast_add, Int.natCast_ediv]; rfl
  have lm : things.length / w + 1 ≤ things.length + 1 := by have := Nat.div_le_self things.length w; omega
  generalize hm : things.length / w + 1 = m at lt e0 le2 lm ⊢
  have e1 : (m : Int) * (w : Int) - (things.length : Int) = ((m * w - things.length : Nat) : Int) := by rw [← Int.natCast_mul]; omega
  simp (maxDischargeDepth := 20) [f_in_rows, b_in_rows, ga, e0, e1, rep_nat]
  refine ⟨⟨by omega, by omega⟩, mul_ok (by omega), by omega, by omega, by omega, ?_⟩
  generalize hf : (List.map D.str things ++ List.replicate (m * w - things.length) (D.str [32])) = F
  have eF : F = (things ++ List.replicate (m * w - things.length) [32]).map D.str := by rw [← hf]; simp
  generalize hA : (h.new (Cell.lst [D.str [32]])).new (Cell.lst (List.replicate (m * w - things.length) (D.str [32]))) = h1
  have x1 : Ext h h1 := by rw [← hA]; exact Ext.tr (Ext.new _ _) (Ext.new _ _)
  generalize hB : h1.new (Cell.lst F) = h2
  have x2 : Ext h h2 := by rw [← hB]; exact x1.tr (Ext.new _ _)
  have gB : h2.get h1.size = some (.lst F) := by rw [← hB]; exact get_new _ _
  rw [upto_nat]
  refine comp_ext (List.range m) (fun (i : Nat) => .int (i : Int)) (fun i => some (.tup (((F.drop (i * w)).take w)))) rfl (by simp [Src.len]) (by simp; omega) (fun h3 i _ => by simp [Src.nxt]) (fun i h3 hi x3 => ?_) (fun h3 x3 g3 => ?_)
  · have him : i < m := List.mem_range.mp hi
    have g3 := Ext.get x3 gB
    have e2 : ((i : Int) + 1) * (w : Int) = (((i + 1) * w : Nat) : Int) := by push_cast; rfl
    have e3 : (i : Int) * (w : Int) = ((i * w : Nat) : Int) := by push_cast; rfl
    simp (maxDischargeDepth := 20) [wipe, g3]
    refine ⟨mul_ok (by omega), mul_ok (by omega), ?_⟩
    rw [e2, e3, cut_mid, Nat.succ_mul, Nat.add_sub_cancel_left]
  · simp [g3, rowsOf]
    refine ⟨?_, x2.tr x3⟩
    rw [hm]
    refine List.map_congr_left fun i _ => ?_
    simp [eF, List.map_take, List.map_drop]
/-- modes -/
structure Md where
  lines : Bool := true
  echo : Bool := true
  signals : Bool := true
  flow : Bool := true
  flush : Bool := true
  least : Nat := 1
  pause : Nat := 0
  room : Nat := 32
  high : Nat := 24
  low : Nat := 8
  tab : Nat := 8
  wide : Txt := []
  marks : Txt := [35, 64, 42, 94, 33, 40, 41, 60, 62, 38]
def Md.fs (m : Md) : List (Nm × D) := [(.lines, .bl m.lines), (.echo, .bl m.echo), (.signals, .bl m.signals), (.flow, .bl m.flow), (.flush, .bl m.flush), (.least, .int m.least), (.pause, .int m.pause), (.room, .int m.room), (.high, .int m.high), (.low, .int m.low), (.tab, .int m.tab), (.wide, .str m.wide), (.marks, .str m.marks)]
def Md.cell (m : Md) : Cell := .obj 0 m.fs
theorem place_behind_sp {things : List Txt} {w a : Nat} (hd : tab.defs[25]? = some f_place_behind) (hw : 2 ≤ w) (hb : w ≤ 1000) (ga : h.get a = some (.lst (things.map .str))) :
    @Wp D (callK tab fuel shows (n + 1) 25 [.ref a, .int w] h) ⟨fun d h' => d = .tup [.int ((things.length / w : Nat) : Int), .int ((things.length % w : Nat) : Int)] ∧ Ext h h'⟩ := by
  refine w_def hd ⟨rfl, by simp [f_place_behind]⟩ ?_
  simp (maxDischargeDepth := 20) [f_place_behind, b_place_behind, ga]
  omega
theorem cells_sp {m : Md} {text : Txt} {at_ w a : Nat} (h2 : tab.defs[22]? = some f_cells_of) (h3 : tab.defs[23]? = some f_all_cells) (hd : tab.defs[26]? = some f_cells) (ga : h.get a = some m.cell) (hw : 2 ≤ w) (hb : w ≤ 1000) (ht : 0 < m.tab) (hl : text.length ≤ 16000) :
    @Wp D (callK tab fuel shows (n + 3) 26 [.ref a, .str text, .int at_, .int w] h) ⟨fun d h' => d = .int ((allCells at_ w m.tab m.wide text).length : Nat) ∧ Ext h h'⟩ := by
  refine w_def hd ⟨rfl, by simp [f_cells]⟩ ?_
  simp (maxDischargeDepth := 20) [f_cells, b_cells, ga, Md.cell, Md.fs, flook]
  refine call_plain h3 rfl rfl (all_cells_sp h2 h3 hw ht hb hl) ?_
  rintro d h' ⟨b, rfl, gb, ex, lb⟩
  simp [gb, ex]
theorem laid_sp {m : Md} {text : Txt} {w a : Nat} (h2 : tab.defs[22]? = some f_cells_of) (h3 : tab.defs[23]? = some f_all_cells) (h4 : tab.defs[24]? = some f_in_rows) (hd : tab.defs[27]? = some f_laid) (ga : h.get a = some m.cell) (hw : 2 ≤ w) (hb : w ≤ 1000) (ht : 0 < m.tab) (hl : text.length ≤ 16000) :
    @Wp D (callK tab fuel shows (n + 3) 27 [.ref a, .str text, .int w] h) ⟨fun d h' => d = .tup ((rowsOf (allCells 0 w m.tab m.wide text) w).map fun r => .tup (r.map .str)) ∧ Ext h h'⟩ := by
  refine w_def hd ⟨rfl, by simp [f_laid]⟩ ?_
  simp (maxDischargeDepth := 20) [f_laid, b_laid, ga, Md.cell, Md.fs, flook]
  refine call_plain h3 rfl rfl (all_cells_sp (at_ := 0) h2 h3 hw ht hb hl) ?_
  rintro d h' ⟨b, rfl, gb, ex, lb⟩
  simp [gb]
  refine call_plain h4 rfl rfl (in_rows_sp h4 hw hb gb (allCells_len _ _ _ _ _ hw hb hl)) ?_
  rintro d h'' ⟨rfl, ex2⟩
  simp [ex.tr ex2]
theorem place_sp {m : Md} {text : Txt} {w a : Nat} (h2 : tab.defs[22]? = some f_cells_of) (h3 : tab.defs[23]? = some f_all_cells) (h4 : tab.defs[25]? = some f_place_behind) (hd : tab.defs[28]? = some f_place) (ga : h.get a = some m.cell) (hw : 2 ≤ w) (hb : w ≤ 1000) (ht : 0 < m.tab) (hl : text.length ≤ 16000) :
    @Wp D (callK tab fuel shows (n + 3) 28 [.ref a, .str text, .int w] h) ⟨fun d h' => d = .tup [.int (((allCells 0 w m.tab m.wide text).length / w : Nat) : Int), .int (((allCells 0 w m.tab m.wide text).length % w : Nat) : Int)] ∧ Ext h h'⟩ := by
  refine w_def hd ⟨rfl, by simp [f_place]⟩ ?_
  simp (maxDischargeDepth := 20) [f_place, b_place, ga, Md.cell, Md.fs, flook]
  refine call_plain h3 rfl rfl (all_cells_sp (at_ := 0) h2 h3 hw ht hb hl) ?_
  rintro d h' ⟨b, rfl, gb, ex, lb⟩
  simp [gb]
  refine call_plain h4 rfl rfl (place_behind_sp h4 hw hb gb) ?_
  rintro d h'' ⟨rfl, ex2⟩
  simp [ex.tr ex2]
end Sp
set_option Elab.async false
set_option linter.all false
set_option maxRecDepth 100000
set_option maxHeartbeats 1000000
namespace Sp
open Ev Pg
variable {tab : Tab} {fuel : Nat} {shows : Dt → Option Txt} {n : Nat} {h : Heap}
def isSign (c : Nat) : Bool := c == 10 || c == 9 || (decide (32 ≤ c) && decide (c ≤ 126) && c != 37)
theorem is_sign_sp {c : Nat} (hd : tab.defs[0]? = some f_is_sign) (hg : tab.glb = glb) :
    @Wp D (callK tab fuel shows (n + 1) 0 [.str [c]] h) ⟨fun d h' => d = .bl (isSign c) ∧ h = h'⟩ := by
  refine w_def hd ⟨rfl, by simp [f_is_sign]⟩ ?_
  simp (maxDischargeDepth := 20) [f_is_sign, b_is_sign, hg, glb, in_tup, flat, eqF]
  have e : ((c : Int) == 37) = (c == 37) := by
    by_cases z : c = 37
    · subst z; rfl
    · rw [beq_eq_false_iff_ne.mpr z, beq_eq_false_iff_ne.mpr (by omega)]
  rw [e]
  refine ⟨fun z => ?_, fun z1 z2 => ⟨fun z3 => ⟨fun z4 => ?_, fun z4 => ?_⟩, fun z3 => ?_⟩⟩
  · rcases z with z | z <;> subst z <;> rfl
  · have a1 : 32 ≤ c := by omega
    have a2 : c ≤ 126 := by omega
    have a3 : ¬ c = 10 := by omega
    have a4 : ¬ c = 9 := by omega
    have b3 : (c == 10) = false := beq_eq_false_iff_ne.mpr a3
    have b4 : (c == 9) = false := beq_eq_false_iff_ne.mpr a4
    simp [isSign, a1, a2, b3, b4, bne]
  · have a2 : ¬ c ≤ 126 := by omega
    have a5 : ¬ (c : Int) ≤ 126 := by omega
    have a3 : ¬ c = 10 := by omega
    have a4 : ¬ c = 9 := by omega
    simp [isSign, a2, a3, a4, a5]
  · have a1 : ¬ 32 ≤ c := by omega
    have a3 : ¬ c = 10 := by omega
    have a4 : ¬ c = 9 := by omega
    simp [isSign, a1, a3, a4]
theorem is_number_sp {i lo hi : Int} (hd : tab.defs[1]? = some f_is_number) :
    @Wp D (callK tab fuel shows (n + 1) 1 [.int i, .int lo, .int hi] h) ⟨fun d h' => d = .bl (decide (lo ≤ i) && decide (i ≤ hi)) ∧ h = h'⟩ := by
  refine w_def hd ⟨rfl, by simp [f_is_number]⟩ ?_
  simp (maxDischargeDepth := 20) [f_is_number, b_is_number, isinst]
  omega
def unlike (s : Txt) : Bool := s.all isSign && (uniq s).length == s.length
theorem are_unlike_sp {s : Txt} (hs : tab.defs[0]? = some f_is_sign) (hd : tab.defs[2]? = some f_are_unlike) (hg : tab.glb = glb) (hl : s.length < 4000) :
    @Wp D (callK tab fuel shows (n + 2) 2 [.str s] h) ⟨fun d h' => d = .bl (unlike s) ∧ Ext h h'⟩ := by
  refine w_def hd ⟨rfl, by simp [f_are_unlike]⟩ ?_
  simp (maxDischargeDepth := 20) [f_are_unlike, b_are_unlike]
  refine comp_ext s (fun c => .str [c]) (fun c => some (.bl (isSign c))) rfl (by simp [Src.len]) (by simp; omega) (fun h3 i _ => by simp [Src.nxt]) (fun c h3 hi x3 => ?_) (fun h3 x3 g3 => ?_)
  · simp [wipe]
    refine call_plain hs rfl rfl (is_sign_sp hs hg) ?_
    rintro d h' ⟨rfl, rfl⟩
    simp
  · simp [g3, fm_map, hl, x3]
    have e : (((uniq s).length : Int) == (s.length : Int)) = ((uniq s).length == s.length) := by
      by_cases z : (uniq s).length = s.length
      · rw [z]; simp
      · rw [beq_eq_false_iff_ne.mpr z, beq_eq_false_iff_ne.mpr (by omega)]
    rw [e]
    by_cases z : ∀ x ∈ s, isSign x = true
    · have : s.all isSign = true := List.all_eq_true.mpr z
      simp [unlike, this, z]
      intro x hx hf
      rw [z x hx] at hf
      cases hf
    · have : s.all isSign = false := by
        rw [← Bool.not_eq_true]
        exact fun q => z (List.all_eq_true.mp q)
      simp [unlike, this, z]
def wideOk (s : Txt) : Bool := unlike s && !(s.any fun c => 10 == c || (9 == c || 32 == c))
theorem is_wide_sp {s : Txt} (hs : tab.defs[0]? = some f_is_sign) (hu : tab.defs[2]? = some f_are_unlike) (hd : tab.defs[3]? = some f_is_wide) (hg : tab.glb = glb) (hl : s.length < 4000) :
    @Wp D (callK tab fuel shows (n + 3) 3 [.str s] h) ⟨fun d h' => d = .bl (wideOk s) ∧ Ext h h'⟩ := by
  refine w_def hd ⟨rfl, by simp [f_is_wide]⟩ ?_
  simp (maxDischargeDepth := 20) [f_is_wide, b_is_wide, isinst]
  refine call_plain hu rfl rfl (are_unlike_sp hs hu hg hl) ?_
  rintro d h1 ⟨rfl, x1⟩
  simp
  refine ⟨fun z => ?_, fun z => ⟨by simp [wideOk, z], x1⟩⟩
  refine comp_ext s (fun c => .str [c]) (fun c => some (.bl (10 == c || (9 == c || 32 == c)))) rfl (by simp [Src.len]) (by simp; omega) (fun h3 i _ => by simp [Src.nxt]) (fun c h3 hi x3 => ?_) (fun h3 x3 g3 => ?_)
  · simp [wipe, in_tup, flat, eqF]
  · simp [g3, fm_map, x1.tr x3, wideOk, z]
def marksOk (s : Txt) : Bool := s.length == 10 && !s.contains 10 && unlike (replC 32 [] s)
theorem replC_len (c : Nat) : ∀ s : Txt, (replC c [] s).length ≤ s.length
  | [] => Nat.le_refl _
  | x :: s => by
    have := replC_len c s
    unfold replC
    split <;> simp <;> omega
theorem are_marks_sp {s : Txt} (hs : tab.defs[0]? = some f_is_sign) (hu : tab.defs[2]? = some f_are_unlike) (hd : tab.defs[4]? = some f_are_marks) (hg : tab.glb = glb) (hl : s.length < 4000) :
    @Wp D (callK tab fuel shows (n + 3) 4 [.str s] h) ⟨fun d h' => d = .bl (marksOk s) ∧ Ext h h'⟩ := by
  refine w_def hd ⟨rfl, by simp [f_are_marks]⟩ ?_
  simp (maxDischargeDepth := 20) [f_are_marks, b_are_marks, isinst, hg, glb, isInfix_one]
  have zi : ((s.length : Int) = 10) ↔ s.length = 10 := by omega
  simp only [zi]
  by_cases z1 : s.length = 10 <;> by_cases z2 : 10 ∈ s <;> simp [z1, z2, marksOk]
  refine call_plain hu rfl rfl (are_unlike_sp hs hu hg (Nat.lt_of_le_of_lt (replC_len 32 s) hl)) ?_
  rintro d h1 ⟨rfl, x1⟩
  refine ⟨?_, x1⟩
  simp [marksOk, z1, z2]
theorem wrong_number_sp {a b c d e f : Nat} (h1 : tab.defs[1]? = some f_is_number) (hd : tab.defs[5]? = some f_wrong_number) (hg : tab.glb = glb) (ok : a ≤ 99 ∧ b ≤ 99 ∧ 1 ≤ c ∧ c ≤ 99 ∧ 1 ≤ d ∧ d ≤ c ∧ e + 1 ≤ d ∧ 1 ≤ f ∧ f ≤ 16) :
    @Wp D (callK tab fuel shows (n + 2) 5 [.int a, .int b, .int c, .int d, .int e, .int f] h) ⟨fun d h' => d = .non ∧ h = h'⟩ := by
  refine w_def hd ⟨rfl, by simp [f_wrong_number]⟩ ?_
  have q1 : (a : Int) ≤ 99 := by omega
  have q2 : (b : Int) ≤ 99 := by omega
  have q3 : (1 : Int) ≤ c := by omega
  have q4 : (c : Int) ≤ 99 := by omega
  have q5 : (1 : Int) ≤ d := by omega
  have q6 : (d : Int) ≤ c := by omega
  have q7 : (e : Int) ≤ d - 1 := by omega
  have q8 : (1 : Int) ≤ f := by omega
  have q9 : (f : Int) ≤ 16 := by omega
  simp (maxDischargeDepth := 20) [f_wrong_number, b_wrong_number, hg, glb]
  refine call_plain h1 rfl rfl (is_number_sp h1) ?_
  rintro _ _ ⟨rfl, rfl⟩
  simp [hg, glb, q1]
  refine call_plain h1 rfl rfl (is_number_sp h1) ?_
  rintro _ _ ⟨rfl, rfl⟩
  simp [hg, glb, q2]
  refine call_plain h1 rfl rfl (is_number_sp h1) ?_
  rintro _ _ ⟨rfl, rfl⟩
  simp [hg, glb, q3, q4]
  refine call_plain h1 rfl rfl (is_number_sp h1) ?_
  rintro _ _ ⟨rfl, rfl⟩
  simp [hg, glb, q5, q6, -Int.ofNat_le]
  refine call_plain h1 rfl rfl (is_number_sp h1) ?_
  rintro _ _ ⟨rfl, rfl⟩
  simp [hg, glb, q7]
  refine call_plain h1 rfl rfl (is_number_sp h1) ?_
  rintro _ _ ⟨rfl, rfl⟩
  simp [hg, glb, q8, q9]
def Md.Ok (m : Md) : Prop := (m.least ≤ 99 ∧ m.pause ≤ 99 ∧ 1 ≤ m.room ∧ m.room ≤ 99 ∧ 1 ≤ m.high ∧ m.high ≤ m.room ∧ m.low + 1 ≤ m.high ∧ 1 ≤ m.tab ∧ m.tab ≤ 16) ∧ (wideOk m.wide = true ∧ m.wide.length < 4000) ∧ marksOk m.marks = true
def Md.args (m : Md) : List D := [.bl m.lines, .bl m.echo, .bl m.signals, .bl m.flow, .bl m.flush, .int m.least, .int m.pause, .int m.room, .int m.high, .int m.low, .int m.tab, .str m.wide, .str m.marks]
structure PMd (tab : Tab) : Prop where
  g : tab.glb = glb
  d0 : tab.defs[0]? = some f_is_sign
  d1 : tab.defs[1]? = some f_is_number
  d2 : tab.defs[2]? = some f_are_unlike
  d3 : tab.defs[3]? = some f_is_wide
  d4 : tab.defs[4]? = some f_are_marks
  d5 : tab.defs[5]? = some f_wrong_number
  d7 : tab.defs[7]? = some f_Modes_init
  c : tab.clss = clss
theorem init_sp {m : Md} {a : Nat} (P : PMd tab) (ok : m.Ok) (ga : h.get a = some (.obj 0 [])) :
    @Wp D (callK tab fuel shows (n + 4) 7 (.ref a :: m.args) h) ⟨fun d h' => d = .non ∧ h'.get a = some m.cell ∧ Old (· = a) h h'⟩ := by
  refine w_def P.d7 ⟨rfl, by simp [f_Modes_init, Md.args]⟩ ?_
  simp (maxDischargeDepth := 20) [f_Modes_init, b_Modes_init, Md.args]
  refine comp_fix _ (fun _ => none) (by simp) (fun x h2 hx x2 => ?_) (fun h1 x1 g1 => ?_)
  · simp at hx
    rcases hx with rfl | rfl | rfl | rfl | rfl <;> simp [wipe, isinst]
  have g1 : h1.get h.size = some (.lst []) := by rw [g1]; simp
  have ga1 := Ext.get x1 ga
  simp
  refine call_plain P.d5 rfl rfl (wrong_number_sp P.d1 P.d5 P.g ok.1) ?_
  rintro _ _ ⟨rfl, rfl⟩
  simp (maxDischargeDepth := 20) [g1]
  generalize hH : h1.new (.lst [.non]) = h2
  have x2 : Ext h1 h2 := by rw [← hH]; exact Ext.new _ _
  have g2 : h2.get h1.size = some (.lst [.non]) := by rw [← hH]; exact get_new _ _
  refine comp_at [.non] (fun _ => none) g2 (by simp) (fun x h3 hx x3 => ?_) (fun h3 x3 g3 => ?_)
  · simp at hx
    subst hx
    simp [wipe]
  have g3 : h3.get h2.size = some (.lst []) := by rw [g3]; simp
  have g13 := Ext.get x3 (Ext.get x2 g1)
  simp (maxDischargeDepth := 20) [g13, g3]
  have lz : h.size ≠ h3.size := by have := lt_of_get g13; omega
  have gr4 : (h3.new (Cell.lst [])).get h3.size = some (.lst []) := get_new _ _
  generalize hH4 : (h3.new (Cell.lst [])) = h4 at gr4 ⊢
  have x4 : Ext h3 h4 := by rw [← hH4]; exact Ext.new _ _
  have gw4 : (h4.new (Cell.lst [D.str [119, 105, 100, 101]])).get h4.size = some (.lst [.str [119, 105, 100, 101]]) := get_new _ _
  have gr5 := Ext.get (Ext.new h4 (Cell.lst [D.str [119, 105, 100, 101]])) gr4
  generalize hH5 : h4.new (Cell.lst [D.str [119, 105, 100, 101]]) = h5 at gw4 gr5 ⊢
  have x5 : Ext h4 h5 := by rw [← hH5]; exact Ext.new _ _
  refine call_plain P.d3 rfl rfl (is_wide_sp P.d0 P.d2 P.d3 P.g ok.2.1.2) ?_
  rintro _ h6 ⟨rfl, x6⟩
  have gw6 := Ext.get x6 gw4
  have gr6 := Ext.get x6 gr5
  simp (maxDischargeDepth := 20) [ok.2.1.1, gw6, gr6, rep]
  generalize hH7 : ((h6.new (Cell.lst [])).new (Cell.lst [])) = h7
  have gx7 : h7.get (h6.new (Cell.lst [])).size = some (.lst []) := by rw [← hH7]; exact get_new _ _
  have x7 : Ext h6 h7 := by rw [← hH7]; exact Ext.tr (Ext.new _ _) (Ext.new _ _)
  have gm8 : (h7.new (Cell.lst [D.str [109, 97, 114, 107, 115]])).get h7.size = some (.lst [D.str [109, 97, 114, 107, 115]]) := get_new _ _
  have gx8 := Ext.get (Ext.new h7 (Cell.lst [D.str [109, 97, 114, 107, 115]])) gx7
  generalize hH8 : h7.new (Cell.lst [D.str [109, 97, 114, 107, 115]]) = h8 at gm8 gx8 ⊢
  have x8 : Ext h7 h8 := by rw [← hH8]; exact Ext.new _ _
  refine call_plain P.d4 rfl rfl (are_marks_sp P.d0 P.d2 P.d4 P.g ?_) ?_
  · have := ok.2.2
    simp [marksOk] at this
    omega
  rintro _ h9 ⟨rfl, x9⟩
  have gm9 := Ext.get x9 gm8
  have gx9 := Ext.get x9 gx8
  have e : eqV (.ref (h9.new (Cell.lst [])).size) (.ref ((h9.new (Cell.lst [])).new (Cell.lst [])).size) (((h9.new (Cell.lst [])).new (Cell.lst [])).new (Cell.lst [])) = some true := by
    simp (maxDischargeDepth := 20) [eqV, dat, DEEP, Dt.eqv, Dt.eqvs]
  simp (maxDischargeDepth := 20) [ok.2.2, gm9, gx9, rep, e]
  have x10 : Ext h (((h9.new (Cell.lst [])).new (Cell.lst [])).new (Cell.lst [])) := x1.tr (x2.tr (x3.tr (x4.tr (x5.tr (x6.tr (x7.tr (x8.tr (x9.tr (Ext.tr (Ext.new _ _) (Ext.tr (Ext.new _ _) (Ext.new _ _)))))))))))
  generalize ((h9.new (Cell.lst [])).new (Cell.lst [])).new (Cell.lst []) = h10 at x10 ⊢
  have g10 := Ext.get x10 ga
  simp [g10, fput, Md.cell, Md.fs]
  exact Old.put _ x10.old (.inl rfl)
theorem Ext.made {h h' : Heap} {c : Cell} (o : Old (· = h.size) (h.new c) h') : Ext h h' := by
  refine ⟨Nat.le_trans (by rw [size_new]; omega) o.1, fun a l _ => ?_⟩
  rw [o.2 a (by rw [size_new]; omega) (by omega)]
  exact get_new_lt l
theorem modes_new {m : Md} {kw : List Nm} {xs : List D} {k : Kc D} (P : PMd tab) (ok : m.Ok) (b : bindA f_Modes_init.sig ([.ref h.size] ++ (splitK kw xs).1) (splitK kw xs).2 = some (.ref h.size :: m.args)) (q : ∀ h', h'.get h.size = some m.cell → Ext h h' → k.go (.ref h.size) h') :
    @Wp D (make ⟨tab, callK tab fuel shows (n + 4), fuel, shows⟩ 0 kw xs h) k := by
  refine make_of (cd := c_Modes) (i := 7) (by show tab.clss[0]? = _; rw [P.c]; rfl) rfl P.d7 (init_sp P ok (get_new _ _)) b ?_
  rintro d h' ⟨rfl, g, o⟩
  exact ⟨rfl, q h' g (Ext.made o)⟩
end Sp
set_option Elab.async false
set_option linter.all false
set_option maxRecDepth 100000
set_option maxHeartbeats 1000000
/-! SpA: draws by digits, then mixed numbers (laws k47 to k63) -/
namespace SpA
open Ev Pg Sp
variable {tab : Tab} {fuel : Nat} {shows : Dt → Option Txt} {n : Nat} {h : Heap}
def b_begin : Ev.Ss := (.cons (.ret (.dct (.cons (.cst (.str [99, 101, 108, 108, 115])) (.cons (.call .list (.cons (.slc (.loc 0) .no (.yes (.cst (.int 63)))) .nil) []) (.cons (.cst (.str [97, 116])) (.cons (.cst (.int 0)) (.cons (.cst (.str [108, 101, 102, 116])) (.cons (.cst (.int 0)) (.cons (.cst (.str [115, 101, 101, 100])) (.cons (.bin .add (.cst (.int 1000003)) (.call .len (.cons (.slc (.loc 0) .no (.yes (.cst (.int 63)))) .nil) [])) .nil))))))))))
  .nil)
/-- 131 -/
def f_begin : Ev.FD := ⟨{ plain := true, args := [.self] }, 1, b_begin⟩
def b_next : Ev.Ss := (.cons (.ite (.and (.cmp .eq (.idx (.loc 0) (.cst (.str [108, 101, 102, 116]))) (.cst (.int 0))) (.cmp .lt (.idx (.loc 0) (.cst (.str [97, 116]))) (.call .len (.cons (.idx (.loc 0) (.cst (.str [99, 101, 108, 108, 115]))) .nil) [])))
  (.cons (.asg (.nm 2) (.idx (.idx (.loc 0) (.cst (.str [99, 101, 108, 108, 115]))) (.idx (.loc 0) (.cst (.str [97, 116])))))
  (.cons (.asg (.idx (.loc 0) (.cst (.str [97, 116]))) (.bin .add (.idx (.loc 0) (.cst (.str [97, 116]))) (.cst (.int 1))))
  (.cons (.asg (.idx (.loc 0) (.cst (.str [115, 101, 101, 100]))) (.bin .mod (.bin .add (.bin .add (.bin .mul (.idx (.loc 0) (.cst (.str [115, 101, 101, 100]))) (.cst (.int 7368787))) (.bin .mod (.loc 2) (.bin .pow (.cst (.int 10)) (.cst (.int 30))))) (.cst (.int 11))) (.cst (.int 2305843009213693951))))
  (.cons (.asg (.idx (.loc 0) (.cst (.str [108, 101, 102, 116]))) (.bin .mul (.loc 2) (.call .int (.cons (.cmp .ge (.loc 2) (.bin .pow (.cst (.int 10)) (.cst (.int 18)))) .nil) [])))
  .nil))))
  .nil)
  (.cons (.ite (.cmp .gt (.idx (.loc 0) (.cst (.str [108, 101, 102, 116]))) (.cst (.int 0)))
  (.cons (.asg (.nm 3) (.bin .mod (.idx (.loc 0) (.cst (.str [108, 101, 102, 116]))) (.loc 1)))
  (.cons (.asg (.idx (.loc 0) (.cst (.str [108, 101, 102, 116]))) (.bin .div (.idx (.loc 0) (.cst (.str [108, 101, 102, 116]))) (.loc 1)))
  (.cons (.ret (.loc 3))
  .nil)))
  .nil)
  (.cons (.asg (.idx (.loc 0) (.cst (.str [115, 101, 101, 100]))) (.bin .mod (.bin .add (.bin .mul (.idx (.loc 0) (.cst (.str [115, 101, 101, 100]))) (.cst (.int 1181783497276652981))) (.cst (.int 12345678910987))) (.cst (.int 2305843009213693951))))
  (.cons (.ret (.bin .mod (.bin .div (.bin .mod (.bin .mul (.idx (.loc 0) (.cst (.str [115, 101, 101, 100]))) (.idx (.loc 0) (.cst (.str [115, 101, 101, 100])))) (.cst (.int 2305843009213693921))) (.cst (.int 65537))) (.loc 1)))
  .nil))))
/-- 132 -/
def f_next : Ev.FD := ⟨{ plain := true, args := [.self, .self] }, 4, b_next⟩
def kv (b at_ : Nat) (left seed : Int) : Cell := .dct [(.s [99, 101, 108, 108, 115], .ref b), (.s [97, 116], .int at_), (.s [108, 101, 102, 116], .int left), (.s [115, 101, 101, 100], .int seed)]
/-- the draws' dict stands at a, its cells at b -/
def Dr (h : Heap) (a b : Nat) : Prop := ∃ (at_ : Nat) (left seed : Int) (cs : List Int), a ≠ b ∧ h.get a = some (kv b at_ left seed) ∧ h.get b = some (.lst (cs.map .int)) ∧ 0 ≤ left ∧ 0 ≤ seed ∧ seed < 2305843009213693951
def Draws (h : Heap) (a : Nat) : Prop := ∃ b, Dr h a b
theorem Dr.old {h h' : Heap} {a b : Nat} {A : Nat → Prop} (o : Old A h h') (na : ¬ A a) (nb : ¬ A b) (d : Dr h a b) : Dr h' a b := by
  obtain ⟨at_, left, seed, cs, ab, ga, gb, r⟩ := d
  exact ⟨at_, left, seed, cs, ab, o.get ga na, o.get gb nb, r⟩
theorem Dr.ext {h h' : Heap} {a b : Nat} (x : Ext h h') (d : Dr h a b) : Dr h' a b := d.old x (fun z => z) (fun z => z)
theorem Dr.lt {h : Heap} {a b : Nat} (d : Dr h a b) : a < h.size ∧ b < h.size := by
  obtain ⟨at_, left, seed, cs, ab, ga, gb, r⟩ := d
  exact ⟨lt_of_get ga, lt_of_get gb⟩
theorem begin_sp {i : Nat} {ns : List Int} {a : Nat} (hd : tab.defs[i]? = some f_begin) (ga : h.get a = some (.fro (ns.map .int))) :
    @Wp D (callK tab fuel shows (n + 1) i [.ref a] h) ⟨fun d h' => ∃ b c, d = .ref b ∧ Dr h' b c ∧ Ext h h' ∧ h.size ≤ b ∧ h.size ≤ c⟩ := by
  refine w_def hd ⟨rfl, by simp [f_begin]⟩ ?_
  simp (maxDischargeDepth := 20) [f_begin, b_begin, ga, pairsD, keyOf, dputs, dput]
  have e : cut (ns.map D.int) none (some 63) = (ns.take 63).map D.int := by
    rw [show (63 : Int) = ((63 : Nat) : Int) from rfl, cut_to, List.map_take]
  have l : (ns.take 63).length ≤ 63 := by rw [List.length_take]; omega
  rw [e, List.length_map]
  have x1 : Ext h (h.new (.dct [])) := Ext.new _ _
  have g1 : (h.new (.dct [])).get h.size = some (.dct []) := get_new _ _
  generalize h.new (.dct []) = h1 at x1 g1 ⊢
  generalize hL : Cell.lst ((ns.take 63).map D.int) = L
  have z : h.size ≠ (h1.new L).size := by have := lt_of_get g1; rw [size_new]; omega
  have g2 : (((h1.new L).new L).new L).get (h1.new L).size = some L := by simp (maxDischargeDepth := 20)
  have x2 : Ext h1 (((h1.new L).new L).new L) := Ext.tr (Ext.new _ _) (Ext.tr (Ext.new _ _) (Ext.new _ _))
  generalize ((h1.new L).new L).new L = h2 at g2 x2 ⊢
  have lz : h.size ≤ (h1.new L).size := by rw [size_new]; have := x1.1; omega
  refine ⟨(h1.new L).size, ⟨0, 0, 1000003 + ((ns.take 63).length : Int), ns.take 63, z, ?_, ?_, Int.le_refl _, ?_, ?_⟩, Ext.put _ (x1.tr x2) (Nat.le_refl _), lz⟩
  · exact get_put (lt_of_get (Ext.get x2 g1))
  · rw [get_put_ne z, g2, hL]
  · omega
  · omega
theorem Dr.put {a b at_ : Nat} {left seed : Int} {cs : List Int} {c : Cell} (ab : a ≠ b) (ga : h.get a = some c) (gb : h.get b = some (.lst (cs.map .int))) (l0 : 0 ≤ left) (s0 : 0 ≤ seed) (s1 : seed < 2305843009213693951) : Dr (h.put a (kv b at_ left seed)) a b :=
  ⟨at_, left, seed, cs, ab, get_put (lt_of_get ga), by rw [get_put_ne ab]; exact gb, l0, s0, s1⟩
def r_next : Ss := match b_next with
  | .cons _ r => r
  | _ => .nil
def q_next : S := match b_next with
  | .cons s _ => s
  | _ => .never
theorem next_tail {X : Cx} {o : Option D} {a b at_ : Nat} {m left seed : Int} {cs : List Int} (ab : a ≠ b) (ga : h.get a = some (kv b at_ left seed)) (gb : h.get b = some (.lst (cs.map .int))) (l0 : 0 ≤ left) (s0 : 0 ≤ seed) (s1 : seed < 2305843009213693951) (h0 : 0 < m) (h1 : m < 1073741824) :
    @Ws (evSs X r_next [some (.ref a), some (.int m), o, none] h) ⟨fun f v h' => ∃ j : Nat, f = .rt (.int j) ∧ (j : Int) < m ∧ Dr h' a b ∧ Old (· = a) h h'⟩ := by
  simp (maxDischargeDepth := 20) [r_next, b_next, ga, gb, kv, keyOf, dlook, dput, ab]
  refine ⟨fun l1 => ⟨h0, ⟨h0, h1⟩, (left % m).toNat, ?_, ?_, Dr.put ab ga gb (Int.ediv_nonneg l0 (by omega)) s0 s1, Old.put _ (Old.refl _) (.inl rfl)⟩, fun l1 => ?_⟩
  · rw [Int.toNat_of_nonneg (Int.emod_nonneg _ (by omega))]
  · rw [Int.toNat_of_nonneg (Int.emod_nonneg _ (by omega))]; exact Int.emod_lt_of_pos _ h0
  · have e0 : 0 ≤ (seed * 1181783497276652981 + 12345678910987) % 2305843009213693951 := Int.emod_nonneg _ (by decide)
    have e1 : (seed * 1181783497276652981 + 12345678910987) % 2305843009213693951 < 2305843009213693951 := Int.emod_lt_of_pos _ (by decide)
    generalize (seed * 1181783497276652981 + 12345678910987) % 2305843009213693951 = q at e0 e1 ⊢
    refine ⟨mul_ok (by omega), mul_ok (by omega), h0, (q * q % 2305843009213693921 / 65537 % m).toNat, ?_, ?_, Dr.put ab ga gb l0 e0 e1, Old.put _ (Old.refl _) (.inl rfl)⟩
    · rw [Int.toNat_of_nonneg (Int.emod_nonneg _ (by omega))]
    · rw [Int.toNat_of_nonneg (Int.emod_nonneg _ (by omega))]; exact Int.emod_lt_of_pos _ h0
theorem next_sp {i a b : Nat} {m : Int} (hd : tab.defs[i]? = some f_next) (dr : Dr h a b) (h0 : 0 < m) (h1 : m < 1073741824) :
    @Wp D (callK tab fuel shows (n + 1) i [.ref a, .int m] h) ⟨fun d h' => ∃ j : Nat, d = .int j ∧ (j : Int) < m ∧ Dr h' a b ∧ Old (· = a) h h'⟩ := by
  obtain ⟨at_, left, seed, cs, ab, ga, gb, l0, s0, s1⟩ := dr
  refine w_def hd ⟨rfl, by simp [f_next]⟩ ?_
  have tl : ∀ (h2 : Heap) (o : Option D) (at2 : Nat) (left2 seed2 : Int), h2.get a = some (kv b at2 left2 seed2) → h2.get b = some (.lst (cs.map .int)) → 0 ≤ left2 → 0 ≤ seed2 → seed2 < 2305843009213693951 → Old (· = a) h h2 →
      @Ws (evSs ⟨tab, callK tab fuel shows n, fuel, shows⟩ r_next [some (.ref a), some (.int m), o, none] h2) ⟨fun f _ h' => match f with | .nx => ∃ j : Nat, D.non = .int j ∧ (j : Int) < m ∧ Dr h' a b ∧ Old (· = a) h h' | .rt d => ∃ j : Nat, d = .int j ∧ (j : Int) < m ∧ Dr h' a b ∧ Old (· = a) h h' | _ => False⟩ := fun h2 o at2 left2 seed2 g1 g2 l0 s0 s1 old => by
    refine (next_tail ab g1 g2 l0 s0 s1 h0 h1).mono ?_
    rintro f v h' ⟨j, rfl, q1, q2, q3⟩
    exact ⟨j, rfl, q1, q2, old.trans q3⟩
  rw [show f_next.body = .cons q_next r_next from rfl]
  simp (maxDischargeDepth := 20) [f_next, q_next, b_next, ga, gb, kv, keyOf, dlook, dput, ab]
  refine ⟨fun e => ⟨fun l => ⟨l, ?_⟩, fun _ => tl _ _ _ _ _ ga gb l0 s0 s1 (Old.refl _)⟩, fun e => ⟨fun e' => absurd e' e, fun _ => tl _ _ _ _ _ ga gb l0 s0 s1 (Old.refl _)⟩⟩
  rw [List.getElem?_eq_getElem l]
  generalize cs[at_] = c
  simp (maxDischargeDepth := 20) [f_next, q_next, b_next, ga, gb, kv, keyOf, dlook, dput, ab]
  have e0 : 0 ≤ (seed * 7368787 + c % 1000000000000000000000000000000 + 11) % 2305843009213693951 := Int.emod_nonneg _ (by decide)
  have e1 : (seed * 7368787 + c % 1000000000000000000000000000000 + 11) % 2305843009213693951 < 2305843009213693951 := Int.emod_lt_of_pos _ (by decide)
  generalize (seed * 7368787 + c % 1000000000000000000000000000000 + 11) % 2305843009213693951 = q at e0 e1 ⊢
  have l2 : 0 ≤ c * (if 1000000000000000000 ≤ c then 1 else 0) := by split <;> omega
  have l3 : mulOk c (if 1000000000000000000 ≤ c then 1 else 0) = true := mul_ok (.inr (by split <;> omega))
  refine ⟨mul_ok (by omega), Nat.lt_of_lt_of_le (by decide : 10 < 2 ^ 4) (Nat.pow_le_pow_right (by decide) (by decide)), l3, ?_⟩
  generalize (c * if 1000000000000000000 ≤ c then 1 else 0) = p at l2 ⊢
  exact tl _ _ (at_ + 1) p q (by rw [get_put (lt_of_get ga)]; rfl) (by rw [get_put_ne ab]; exact gb) l2 e0 e1 (Old.put _ (Old.refl _) (.inl rfl))
end SpA
set_option Elab.async false
set_option linter.all false
set_option maxRecDepth 100000
set_option maxHeartbeats 1000000
/-! Sp3: screens -/
namespace Sp
open Ev Pg
variable {tab : Tab} {fuel : Nat} {shows : Dt → Option Txt} {n : Nat} {h : Heap}
def scrFs (w t : Nat) (far : Txt) (s : Nat) : List (Nm × D) := [(.columns, .int w), (.tab, .int t), (.wide, .str far), (.standing, .ref s)]
/-- a screen at a, what stands there at s -/
def Scr (h : Heap) (a s w t : Nat) (far : Txt) (things : List Txt) : Prop := a ≠ s ∧ h.get a = some (.obj 4 (scrFs w t far s)) ∧ h.get s = some (.lst (things.map .str))
theorem Scr.old {h h' : Heap} {a s w t : Nat} {far : Txt} {things : List Txt} {A : Nat → Prop} (o : Old A h h') (na : ¬ A a) (ns : ¬ A s) (d : Scr h a s w t far things) : Scr h' a s w t far things := ⟨d.1, o.get d.2.1 na, o.get d.2.2 ns⟩
theorem Scr.ext {h h' : Heap} {a s w t : Nat} {far : Txt} {things : List Txt} (x : Ext h h') (d : Scr h a s w t far things) : Scr h' a s w t far things := d.old x (fun z => z) (fun z => z)
theorem Scr.lt {h : Heap} {a s w t : Nat} {far : Txt} {things : List Txt} (d : Scr h a s w t far things) : a < h.size ∧ s < h.size := ⟨lt_of_get d.2.1, lt_of_get d.2.2⟩
theorem scr_init_sp {a w t : Nat} {far : Txt} (hd : tab.defs[57]? = some f_Screen_init) (ga : h.get a = some (.obj 4 [])) :
    @Wp D (callK tab fuel shows (n + 1) 57 [.ref a, .int w, .int t, .str far] h) ⟨fun d h' => d = .non ∧ Scr h' a h.size w t far [] ∧ Old (· = a) h h'⟩ := by
  refine w_def hd ⟨rfl, by simp [f_Screen_init]⟩ ?_
  simp (maxDischargeDepth := 20) [f_Screen_init, b_Screen_init, ga, fput]
  have z := lt_of_get ga
  refine ⟨⟨by omega, ?_, ?_⟩, ?_⟩
  · simp (maxDischargeDepth := 20) [ga, scrFs, size_put]
  · have g := get_new (h.put a (Cell.obj 4 [(Nm.columns, D.int w), (Nm.tab, D.int t), (Nm.wide, D.str far)])) (Cell.lst [])
    rw [size_put] at g
    rw [get_put_ne (by omega)]
    exact g
  · exact Old.put _ (Old.new _ (Old.put _ (Old.refl _) (.inl rfl))) (.inl rfl)
theorem scr_show_sp {a s w t : Nat} {far text : Txt} {things : List Txt} (h2 : tab.defs[22]? = some f_cells_of) (h3 : tab.defs[23]? = some f_all_cells) (hd : tab.defs[59]? = some f_Screen_show) (sc : Scr h a s w t far things) (hw : 2 ≤ w) (hb : w ≤ 1000) (ht : 0 < t) (hl : text.length ≤ 16000) (hs : things.length ≤ 700000) :
    @Wp D (callK tab fuel shows (n + 3) 59 [.ref a, .str text] h) ⟨fun d h' => d = .non ∧ Scr h' a s w t far (things ++ allCells things.length w t far text) ∧ Old (· = s) h h'⟩ := by
  obtain ⟨as, ga, gs⟩ := sc
  refine w_def hd ⟨rfl, by simp [f_Screen_show]⟩ ?_
  simp (maxDischargeDepth := 20) [f_Screen_show, b_Screen_show, ga, gs, scrFs, flook]
  refine call_plain h3 rfl rfl (all_cells_sp (at_ := things.length) h2 h3 hw ht hb hl) ?_
  rintro _ h1 ⟨b, rfl, gb, x1, lb⟩
  have gs1 := Ext.get x1 gs
  have ga1 := Ext.get x1 ga
  have l1 := allCells_len things.length w t far text hw hb hl
  simp (maxDischargeDepth := 20) [gs, gs1, gb]
  refine ⟨by omega, ⟨as, ?_, ?_⟩, Old.put _ x1.old (.inl rfl)⟩
  · rw [get_put_ne (fun z => as z.symm)]; exact ga1
  · rw [get_put (lt_of_get gs1)]; simp
theorem scr_rows_sp {a s w t : Nat} {far : Txt} {things : List Txt} (h4 : tab.defs[24]? = some f_in_rows) (hd : tab.defs[61]? = some f_Screen_rows) (sc : Scr h a s w t far things) (hw : 2 ≤ w) (hb : w ≤ 1000) (hs : things.length ≤ 16016000) :
    @Wp D (callK tab fuel shows (n + 2) 61 [.ref a] h) ⟨fun d h' => d = .tup ((rowsOf things w).map fun r => .tup (r.map .str)) ∧ Ext h h'⟩ := by
  obtain ⟨as, ga, gs⟩ := sc
  refine w_def hd ⟨rfl, by simp [f_Screen_rows]⟩ ?_
  simp (maxDischargeDepth := 20) [f_Screen_rows, b_Screen_rows, ga, gs, scrFs, flook]
  refine call_plain h4 rfl rfl (in_rows_sp h4 hw hb gs hs) ?_
  rintro _ h1 ⟨rfl, x1⟩
  simp [x1]
theorem scr_where_sp {a s w t : Nat} {far : Txt} {things : List Txt} (h4 : tab.defs[25]? = some f_place_behind) (hd : tab.defs[62]? = some f_Screen_where) (sc : Scr h a s w t far things) (hw : 2 ≤ w) (hb : w ≤ 1000) :
    @Wp D (callK tab fuel shows (n + 2) 62 [.ref a] h) ⟨fun d h' => d = .tup [.int ((things.length / w : Nat) : Int), .int ((things.length % w : Nat) : Int)] ∧ Ext h h'⟩ := by
  obtain ⟨as, ga, gs⟩ := sc
  refine w_def hd ⟨rfl, by simp [f_Screen_where]⟩ ?_
  simp (maxDischargeDepth := 20) [f_Screen_where, b_Screen_where, ga, gs, scrFs, flook]
  refine call_plain h4 rfl rfl (place_behind_sp h4 hw hb gs) ?_
  rintro _ h1 ⟨rfl, x1⟩
  simp [x1]
theorem scr_back_sp {a s w t many : Nat} {far : Txt} {things : List Txt} (hd : tab.defs[60]? = some f_Screen_back) (sc : Scr h a s w t far things) (hm : many ≤ things.length) :
    @Wp D (callK tab fuel shows (n + 1) 60 [.ref a, .int many] h) ⟨fun d h' => d = .non ∧ Scr h' a h.size w t far (things.take (things.length - many)) ∧ Old (· = a) h h'⟩ := by
  have z := sc.lt
  obtain ⟨as, ga, gs⟩ := sc
  refine w_def hd ⟨rfl, by simp [f_Screen_back]⟩ ?_
  have e : (things.length : Int) - (many : Int) = ((things.length - many : Nat) : Int) := by omega
  have nl : ¬ (things.length : Int) < (many : Int) := by omega
  simp (maxDischargeDepth := 20) [f_Screen_back, b_Screen_back, ga, gs, scrFs, flook, fput]
  rw [e]
  refine ⟨fun q => by omega, fun _ => ⟨⟨by omega, ?_, ?_⟩, ?_⟩⟩
  · simp (maxDischargeDepth := 20) [ga, scrFs]
  · rw [get_put_ne (by omega), get_new, cut_to, List.map_take]
  · exact Old.put _ (Old.new _ (Old.refl _)) (.inl rfl)
theorem scr_new {w t : Nat} {far : Txt} {kw : List Nm} {xs : List D} {k : Kc D} (hc : tab.clss = clss) (hd : tab.defs[57]? = some f_Screen_init) (b : bindA f_Screen_init.sig ([.ref h.size] ++ (splitK kw xs).1) (splitK kw xs).2 = some [.ref h.size, .int w, .int t, .str far]) (q : ∀ h' s, Scr h' h.size s w t far [] → Ext h h' → h.size < s → k.go (.ref h.size) h') :
    @Wp D (make ⟨tab, callK tab fuel shows (n + 1), fuel, shows⟩ 4 kw xs h) k := by
  refine make_of (cd := c_Screen) (i := 57) (by rw [hc]; rfl) rfl hd (scr_init_sp hd (get_new _ _)) b ?_
  rintro d h' ⟨rfl, g, o⟩
  exact ⟨rfl, q h' _ g (Ext.made o) (by rw [size_new]; omega)⟩
theorem dat_str (h : Heap) (n : Nat) (r : Txt) : dat h n (.str r) = some (.str r) := by cases n <;> rfl
theorem dat_strs (h : Heap) (n : Nat) : ∀ rs : List Txt, (rs.map D.str).mapM (dat h n) = some (rs.map Dt.str)
  | [] => rfl
  | r :: rs => by
    rw [List.map_cons, List.mapM_cons, dat_strs h n rs, dat_str]
    rfl
theorem dat_rows (h : Heap) (n : Nat) : ∀ rs : List (List Txt), (rs.map fun r => D.tup (r.map D.str)).mapM (dat h (n + 1)) = some (rs.map fun r => Dt.tup (r.map Dt.str))
  | [] => rfl
  | r :: rs => by
    rw [List.map_cons, List.mapM_cons, dat_rows h n rs]
    show (Option.bind (((r.map D.str).mapM (dat h n)).map Dt.tup) fun a => _) = _
    rw [dat_strs]
    rfl
mutual
theorem eqv_refl : ∀ d : Dt, Dt.eqv d d = true
  | .non => rfl
  | .bl b => by simp [Dt.eqv]
  | .int i => by simp [Dt.eqv]
  | .str s => by simp [Dt.eqv]
  | .lst xs => by rw [Dt.eqv]; exact eqvs_refl xs
  | .tup xs => by rw [Dt.eqv]; exact eqvs_refl xs
theorem eqvs_refl : ∀ ds : List Dt, Dt.eqvs ds ds = true
  | [] => rfl
  | d :: ds => by rw [Dt.eqvs, eqv_refl d, eqvs_refl ds]; rfl
end
theorem eqV_same {x y : D} {h : Heap} {d : Dt} (e1 : dat h DEEP x = some d) (e2 : dat h DEEP y = some d) : eqV x y h = some true := by
  unfold eqV
  rw [e1, e2]
  simp [eqv_refl]
theorem dat_rows40 (h : Heap) (rs : List (List Txt)) : dat h DEEP (.tup (rs.map fun r => .tup (r.map .str))) = some (.tup (rs.map fun r => .tup (r.map .str))) := by
  show ((rs.map fun r => D.tup (r.map D.str)).mapM (dat h (38 + 1))).map Dt.tup = _
  rw [dat_rows]
  rfl
theorem scr_eq_sp {a s b s' w t : Nat} {far : Txt} {things : List Txt} (hc : tab.clss = clss) (h4 : tab.defs[24]? = some f_in_rows) (h5 : tab.defs[25]? = some f_place_behind) (h6 : tab.defs[61]? = some f_Screen_rows) (h7 : tab.defs[62]? = some f_Screen_where) (hd : tab.defs[58]? = some f_Screen_eq) (sc : Scr h a s w t far things) (sc' : Scr h b s' w t far things) (hw : 2 ≤ w) (hb : w ≤ 1000) (hs : things.length ≤ 16016000) :
    @Wp D (callK tab fuel shows (n + 3) 58 [.ref a, .ref b] h) ⟨fun d h' => d = .bl true ∧ Ext h h'⟩ := by
  have ga := sc.2.1
  have gb := sc'.2.1
  refine w_def hd ⟨rfl, by simp [f_Screen_eq]⟩ ?_
  simp (maxDischargeDepth := 20) [f_Screen_eq, b_Screen_eq, ga, gb, scrFs, flook, eqV, dat, DEEP, Dt.eqv, Dt.eqvs, hc, clss, c_Screen, mlook]
  refine call_plain h6 rfl rfl (scr_rows_sp h4 h6 sc hw hb hs) ?_
  rintro _ h1 ⟨rfl, x1⟩
  have sc1 := sc'.ext x1
  have gb1 := sc1.2.1
  simp (maxDischargeDepth := 20) [gb1, scrFs, flook, hc, clss, c_Screen, mlook]
  refine call_plain h6 rfl rfl (scr_rows_sp h4 h6 sc1 hw hb hs) ?_
  rintro _ h2 ⟨rfl, x2⟩
  simp [eqV_same (dat_rows40 h2 (rowsOf things w)) (dat_rows40 h2 (rowsOf things w))]
  have sc2 := (sc.ext x1).ext x2
  have ga2 := sc2.2.1
  simp (maxDischargeDepth := 20) [ga2, scrFs, flook, hc, clss, c_Screen, mlook]
  refine call_plain h7 rfl rfl (scr_where_sp h5 h7 sc2 hw hb) ?_
  rintro _ h3 ⟨rfl, x3⟩
  have sc3 := (sc1.ext x2).ext x3
  have gb3 := sc3.2.1
  simp (maxDischargeDepth := 20) [gb3, scrFs, flook, hc, clss, c_Screen, mlook]
  refine call_plain h7 rfl rfl (scr_where_sp h5 h7 sc3 hw hb) ?_
  rintro _ h4 ⟨rfl, x4⟩
  simp (maxDischargeDepth := 20) [eqV, dat, DEEP, Dt.eqv, Dt.eqvs]
  exact x1.tr (x2.tr (x3.tr x4))
end Sp
set_option Elab.async false
set_option linter.all false
set_option maxRecDepth 100000
set_option maxHeartbeats 4000000
namespace Tk62
open PySem EvS
abbrev topS (i : Nat) : Stmt := PySem.Challenge.pw_keyedline_k62_by_names_of_two.main.body.getD i (.Pass ⟨0, 0, 0, 0⟩)
def b_l_begin : Ev.Ss := (.cons (.ret (.dct (.cons (.cst (.str [99, 101, 108, 108, 115])) (.cons (.call .list (.cons (.slc (.loc 0) .no (.yes (.cst (.int 63)))) .nil) []) (.cons (.cst (.str [97, 116])) (.cons (.cst (.int 0)) (.cons (.cst (.str [108, 101, 102, 116])) (.cons (.cst (.int 0)) (.cons (.cst (.str [115, 101, 101, 100])) (.cons (.bin .add (.cst (.int 1000003)) (.call .len (.cons (.slc (.loc 0) .no (.yes (.cst (.int 63)))) .nil) [])) .nil))))))))))
  .nil)
/-- 131 -/
def f_l_begin : Ev.FD := ⟨{ plain := true, args := [.self] }, 1, b_l_begin⟩
def b_l_next : Ev.Ss := (.cons (.ite (.and (.cmp .eq (.idx (.loc 0) (.cst (.str [108, 101, 102, 116]))) (.cst (.int 0))) (.cmp .lt (.idx (.loc 0) (.cst (.str [97, 116]))) (.call .len (.cons (.idx (.loc 0) (.cst (.str [99, 101, 108, 108, 115]))) .nil) [])))
  (.cons (.asg (.nm 2) (.idx (.idx (.loc 0) (.cst (.str [99, 101, 108, 108, 115]))) (.idx (.loc 0) (.cst (.str [97, 116])))))
  (.cons (.asg (.idx (.loc 0) (.cst (.str [97, 116]))) (.bin .add (.idx (.loc 0) (.cst (.str [97, 116]))) (.cst (.int 1))))
  (.cons (.asg (.idx (.loc 0) (.cst (.str [115, 101, 101, 100]))) (.bin .mod (.bin .add (.bin .add (.bin .mul (.idx (.loc 0) (.cst (.str [115, 101, 101, 100]))) (.cst (.int 7368787))) (.bin .mod (.loc 2) (.bin .pow (.cst (.int 10)) (.cst (.int 30))))) (.cst (.int 11))) (.cst (.int 2305843009213693951))))
  (.cons (.asg (.idx (.loc 0) (.cst (.str [108, 101, 102, 116]))) (.bin .mul (.loc 2) (.call .int (.cons (.cmp .ge (.loc 2) (.bin .pow (.cst (.int 10)) (.cst (.int 18)))) .nil) [])))
  .nil))))
  .nil)
  (.cons (.ite (.cmp .gt (.idx (.loc 0) (.cst (.str [108, 101, 102, 116]))) (.cst (.int 0)))
  (.cons (.asg (.nm 3) (.bin .mod (.idx (.loc 0) (.cst (.str [108, 101, 102, 116]))) (.loc 1)))
  (.cons (.asg (.idx (.loc 0) (.cst (.str [108, 101, 102, 116]))) (.bin .div (.idx (.loc 0) (.cst (.str [108, 101, 102, 116]))) (.loc 1)))
  (.cons (.ret (.loc 3))
  .nil)))
  .nil)
  (.cons (.asg (.idx (.loc 0) (.cst (.str [115, 101, 101, 100]))) (.bin .mod (.bin .add (.bin .mul (.idx (.loc 0) (.cst (.str [115, 101, 101, 100]))) (.cst (.int 1181783497276652981))) (.cst (.int 12345678910987))) (.cst (.int 2305843009213693951))))
  (.cons (.ret (.bin .mod (.bin .div (.bin .mod (.bin .mul (.idx (.loc 0) (.cst (.str [115, 101, 101, 100]))) (.idx (.loc 0) (.cst (.str [115, 101, 101, 100])))) (.cst (.int 2305843009213693921))) (.cst (.int 65537))) (.loc 1)))
  .nil))))
/-- 132 -/
def f_l_next : Ev.FD := ⟨{ plain := true, args := [.self, .self] }, 4, b_l_next⟩
def b_law : Ev.Ss := (.cons (.asg (.nm 1) (.call (.df 131) (.cons (.loc 0) .nil) []))
  (.cons (.asg (.tup (.cons (.nm 6) (.cons (.nm 7) .nil))) (.tup (.cons (.bin .add (.cst (.int 10)) (.call (.df 132) (.cons (.loc 1) (.cons (.cst (.int 51)) .nil)) [])) (.cons (.bin .add (.cst (.int 1)) (.call (.df 132) (.cons (.loc 1) (.cons (.cst (.int 9)) .nil)) [])) .nil))))
  (.cons (.asg (.nm 2) (.slc (.cst (.str [97, 98])) .no (.yes (.call (.df 132) (.cons (.loc 1) (.cons (.cst (.int 3)) .nil)) []))))
  (.cons (.asg (.tup (.cons (.nm 8) (.cons (.nm 9) .nil))) (.tup (.cons (.bin .add (.loc 2) (.cst (.str [9, 87]))) (.cons (.call (.cl 0) (.cons (.cst (.str [87])) (.cons (.loc 7) .nil)) [.wide, .tab]) .nil))))
  (.cons (.asg (.nm 3) (.bin .mul (.bin .add (.bin .div (.call .len (.cons (.loc 2) .nil) []) (.loc 7)) (.cst (.int 1))) (.loc 7)))
  (.cons (.asg (.nm 4) (.bin .add (.bin .add (.call .min (.cons (.loc 3) (.cons (.loc 6) .nil)) []) (.cst (.int 2))) (.call .int (.cons (.cmp .eq (.loc 3) (.bin .sub (.loc 6) (.cst (.int 1)))) .nil) [])))
  (.cons (.ite (.or (.cmp .ne (.call (.df 21) (.cons (.cst (.str [10])) .nil) [.sign]) (.cst (.str [94, 74]))) (.cmp .ne (.call (.df 26) (.cons (.loc 6) (.cons (.loc 9) (.cons (.loc 8) .nil))) [.columns, .modes, .text]) (.loc 4)))
  (.cons (.ret (.cst (.bl false)))
  .nil)
  .nil)
  (.cons (.ite (.or (.cmp .ne (.call (.df 26) (.cons (.bin .sub (.loc 6) (.cst (.int 1))) (.cons (.cst (.str [87])) (.cons (.loc 6) (.cons (.loc 9) .nil)))) [.«at», .text, .columns, .modes]) (.cst (.int 3))) (.cmp .ne (.glb 4) (.cst (.int 8))))
  (.cons (.ret (.cst (.bl false)))
  .nil)
  .nil)
  (.cons (.ite (.cmp .ne (.call (.df 28) (.cons (.loc 6) (.cons (.loc 8) (.cons (.loc 9) .nil))) [.columns, .text, .modes]) (.tup (.cons (.bin .div (.loc 4) (.loc 6)) (.cons (.bin .mod (.loc 4) (.loc 6)) .nil))))
  (.cons (.ret (.cst (.bl false)))
  .nil)
  .nil)
  (.cons (.asg (.nm 5) (.call (.df 27) (.cons (.loc 2) (.cons (.loc 6) (.cons (.loc 9) .nil))) [.text, .columns, .modes]))
  (.cons (.ite (.cmp .ne (.loc 5) (.tup (.cons (.call .tuple (.cons (.bin .add (.call .list (.cons (.loc 2) .nil) []) (.bin .mul (.lst (.cons (.cst (.str [32])) .nil)) (.bin .sub (.loc 6) (.call .len (.cons (.loc 2) .nil) [])))) .nil) []) .nil)))
  (.cons (.ret (.cst (.bl false)))
  .nil)
  .nil)
  (.cons (.asg (.tup (.cons (.nm 10) (.cons (.nm 11) .nil))) (.tup (.cons (.call (.cl 4) (.cons (.loc 6) (.cons (.cst (.str [87])) (.cons (.loc 7) .nil))) [.columns, .wide, .tab]) (.cons (.call (.cl 4) (.cons (.cst (.str [87])) (.cons (.loc 6) (.cons (.loc 7) .nil))) [.wide, .columns, .tab]) .nil))))
  (.cons (.ex (.meth (.loc 10) .«show» (.cons (.loc 8) .nil) [.text]))
  (.cons (.ex (.meth (.loc 11) .«show» (.cons (.loc 8) .nil) []))
  (.cons (.ite (.or (.not (.cmp .eq (.loc 10) (.loc 11))) (.cmp .ne (.meth (.loc 10) .«where» .nil []) (.tup (.cons (.bin .div (.loc 4) (.loc 6)) (.cons (.bin .mod (.loc 4) (.loc 6)) .nil)))))
  (.cons (.ret (.cst (.bl false)))
  .nil)
  .nil)
  (.cons (.ex (.meth (.loc 10) .«back» (.cons (.bin .sub (.loc 4) (.call .len (.cons (.loc 2) .nil) [])) .nil) [.many]))
  (.cons (.ret (.and (.cmp .eq (.meth (.loc 10) .rows .nil []) (.loc 5)) (.cmp .eq (.tup (.cons (.fld (.call (.cl 4) (.cons (.loc 6) .nil) [.columns]) .tab) (.cons (.fld (.call (.cl 4) (.cons (.loc 6) .nil) [.columns]) .wide) .nil))) (.tup (.cons (.glb 4) (.cons (.cst (.str [])) .nil))))))
  .nil)))))))))))))))))
/-- 133 -/
def f_law : Ev.FD := ⟨{ plain := true, args := [.self] }, 12, b_law⟩
def e0 : DefT := ⟨⟨("is_sign", none), "is_sign", "is_sign", tArgs (topS 28), tBody (topS 28), tScope (topS 28), [], []⟩, Pg.f_is_sign, ["thing"], ["thing"]⟩
def e1 : DefT := ⟨⟨("is_number", none), "is_number", "is_number", tArgs (topS 29), tBody (topS 29), tScope (topS 29), [], []⟩, Pg.f_is_number, ["thing", "least", "most"], ["thing", "least", "most"]⟩
def e2 : DefT := ⟨⟨("are_unlike", none), "are_unlike", "are_unlike", tArgs (topS 30), tBody (topS 30), tScope (topS 30), [], []⟩, Pg.f_are_unlike, ["signs", "sign"], ["signs"]⟩
def e3 : DefT := ⟨⟨("is_wide", none), "is_wide", "is_wide", tArgs (topS 31), tBody (topS 31), tScope (topS 31), [], []⟩, Pg.f_is_wide, ["thing", "sign"], ["thing"]⟩
def e4 : DefT := ⟨⟨("are_marks", none), "are_marks", "are_marks", tArgs (topS 32), tBody (topS 32), tScope (topS 32), [], []⟩, Pg.f_are_marks, ["thing"], ["thing"]⟩
def e5 : DefT := ⟨⟨("wrong_number", none), "wrong_number", "wrong_number", tArgs (topS 33), tBody (topS 33), tScope (topS 33), [], []⟩, Pg.f_wrong_number, ["least", "pause", "room", "high", "low", "tab"], ["least", "pause", "room", "high", "low", "tab"]⟩
def e6 : DefT := ⟨⟨("all_of", none), "all_of", "all_of", tArgs (topS 34), tBody (topS 34), tScope (topS 34), [], []⟩, Pg.f_all_of, ["modes", "truths"], ["modes"]⟩
def e7 : DefT := ⟨⟨("Modes", some "__init__"), "__init__", "Modes.__init__", tArgs (methS (topS 35) 0), tBody (methS (topS 35) 0), tScope (methS (topS 35) 0), [], [("lines", .bl true), ("echo", .bl true), ("signals", .bl true), ("flow", .bl true), ("flush", .bl true), ("least", .int 1), ("pause", .int 0), ("room", .int 32), ("high", .int 24), ("low", .int 8), ("tab", .int 8), ("wide", .str ""), ("marks", .str "#@*^!()<>&")]⟩, Pg.f_Modes_init, ["self", "lines", "echo", "signals", "flow", "flush", "least", "pause", "room", "high", "low", "tab", "wide", "marks", "truths", "wrong", "number", "field", "thing"], ["self", "lines", "echo", "signals", "flow", "flush", "least", "pause", "room", "high", "low", "tab", "wide", "marks"]⟩
def e8 : DefT := ⟨⟨("Modes", some "__eq__"), "__eq__", "Modes.__eq__", tArgs (methS (topS 35) 1), tBody (methS (topS 35) 1), tScope (methS (topS 35) 1), [], []⟩, Pg.f_Modes_eq, ["self", "other"], ["self", "other"]⟩
def e9 : DefT := ⟨⟨("Modes", some "__str__"), "__str__", "Modes.__str__", tArgs (methS (topS 35) 2), tBody (methS (topS 35) 2), tScope (methS (topS 35) 2), [], []⟩, ⟨{ plain := true, args := [.self] }, 6, (.cons .never (.cons .never (.cons .never (.cons .never (.cons .never (.cons .never (.cons .never .nil)))))))⟩, ["self", "words", "word", "truth", "name", "sign"], ["self"]⟩
def e10 : DefT := ⟨⟨("Modes", some "__repr__"), "__repr__", "Modes.__repr__", tArgs (methS (topS 35) 3), tBody (methS (topS 35) 3), tScope (methS (topS 35) 3), [], []⟩, ⟨{ plain := true, args := [.self] }, 2, (.cons .never (.cons .never .nil))⟩, ["self", "text"], ["self"]⟩
def e11 : DefT := ⟨⟨("Modes", some "key"), "key", "Modes.key", tArgs (methS (topS 35) 4), tBody (methS (topS 35) 4), tScope (methS (topS 35) 4), [], []⟩, ⟨{ args := [.self, .name], kwo := [], dfl := [], kwd := [] }, 4, (.cons .never (.cons .never .nil))⟩, ["self", "name", "one", "sign"], ["self", "name"]⟩
def e12 : DefT := ⟨⟨("Modes", some "name_of"), "name_of", "Modes.name_of", tArgs (methS (topS 35) 5), tBody (methS (topS 35) 5), tScope (methS (topS 35) 5), [], []⟩, ⟨{ args := [.self, .sign], kwo := [], dfl := [], kwd := [] }, 2, (.cons .never .nil)⟩, ["self", "sign"], ["self", "sign"]⟩
def e21 : DefT := ⟨⟨("shown", none), "shown", "shown", tArgs (topS 2), tBody (topS 2), tScope (topS 2), [], []⟩, Pg.f_shown, ["sign"], ["sign"]⟩
def e22 : DefT := ⟨⟨("cells_of", none), "cells_of", "cells_of", tArgs (topS 3), tBody (topS 3), tScope (topS 3), [], []⟩, Pg.f_cells_of, ["sign", "at", "columns", "tab", "wide", "column", "left_over", "bare"], ["sign", "at", "columns", "tab", "wide"]⟩
def e23 : DefT := ⟨⟨("all_cells", none), "all_cells", "all_cells", tArgs (topS 4), tBody (topS 4), tScope (topS 4), [], []⟩, Pg.f_all_cells, ["text", "at", "columns", "tab", "wide", "found", "sign"], ["text", "at", "columns", "tab", "wide"]⟩
def e24 : DefT := ⟨⟨("in_rows", none), "in_rows", "in_rows", tArgs (topS 5), tBody (topS 5), tScope (topS 5), [], []⟩, Pg.f_in_rows, ["things", "columns", "many", "filled", "at"], ["things", "columns"]⟩
def e25 : DefT := ⟨⟨("place_behind", none), "place_behind", "place_behind", tArgs (topS 6), tBody (topS 6), tScope (topS 6), [], []⟩, Pg.f_place_behind, ["things", "columns"], ["things", "columns"]⟩
def e26 : DefT := ⟨⟨("cells", none), "cells", "cells", tArgs (topS 7), tBody (topS 7), tScope (topS 7), [], [("at", .int 0)]⟩, Pg.f_cells, ["modes", "text", "at", "columns"], ["modes", "text", "at", "columns"]⟩
def e27 : DefT := ⟨⟨("laid", none), "laid", "laid", tArgs (topS 8), tBody (topS 8), tScope (topS 8), [], []⟩, Pg.f_laid, ["modes", "text", "columns"], ["modes", "text", "columns"]⟩
def e28 : DefT := ⟨⟨("place", none), "place", "place", tArgs (topS 9), tBody (topS 9), tScope (topS 9), [], []⟩, Pg.f_place, ["modes", "text", "columns"], ["modes", "text", "columns"]⟩
def e57 : DefT := ⟨⟨("Screen", some "__init__"), "__init__", "Screen.__init__", tArgs (methS (topS 37) 0), tBody (methS (topS 37) 0), tScope (methS (topS 37) 0), [], [("tab", .int 8), ("wide", .str "")]⟩, Pg.f_Screen_init, ["self", "columns", "tab", "wide"], ["self", "columns", "tab", "wide"]⟩
def e58 : DefT := ⟨⟨("Screen", some "__eq__"), "__eq__", "Screen.__eq__", tArgs (methS (topS 37) 1), tBody (methS (topS 37) 1), tScope (methS (topS 37) 1), [], []⟩, Pg.f_Screen_eq, ["self", "other", "mine", "its"], ["self", "other"]⟩
def e59 : DefT := ⟨⟨("Screen", some "show"), "show", "Screen.show", tArgs (methS (topS 37) 2), tBody (methS (topS 37) 2), tScope (methS (topS 37) 2), [], []⟩, Pg.f_Screen_show, ["self", "text"], ["self", "text"]⟩
def e60 : DefT := ⟨⟨("Screen", some "back"), "back", "Screen.back", tArgs (methS (topS 37) 3), tBody (methS (topS 37) 3), tScope (methS (topS 37) 3), [], []⟩, Pg.f_Screen_back, ["self", "many"], ["self", "many"]⟩
def e61 : DefT := ⟨⟨("Screen", some "rows"), "rows", "Screen.rows", tArgs (methS (topS 37) 4), tBody (methS (topS 37) 4), tScope (methS (topS 37) 4), [], []⟩, Pg.f_Screen_rows, ["self"], ["self"]⟩
def e62 : DefT := ⟨⟨("Screen", some "where"), "where", "Screen.where", tArgs (methS (topS 37) 5), tBody (methS (topS 37) 5), tScope (methS (topS 37) 5), [], []⟩, Pg.f_Screen_where, ["self"], ["self"]⟩
def e131 : DefT := ⟨⟨("_law_begin", none), "_law_begin", "_law_begin", tArgs (topS 39), tBody (topS 39), tScope (topS 39), [], []⟩, f_l_begin, ["_law_script"], ["_law_script"]⟩
def e132 : DefT := ⟨⟨("_law_next", none), "_law_next", "_law_next", tArgs (topS 40), tBody (topS 40), tScope (topS 40), [], []⟩, f_l_next, ["_law_draws", "_law_size", "_law_cell", "_law_digit"], ["_law_draws", "_law_size"]⟩
def e133 : DefT := ⟨⟨("law", none), "law", "law", tArgs (topS 41), tBody (topS 41), tScope (topS 41), [], []⟩, f_law, ["_law_script", "_law_draws", "_law_near", "_law_first", "_law_took", "_law_row", "_law_width", "_law_stops", "_law_written", "_law_mine", "_law_box", "_law_other"], ["_law_script"]⟩
def gl0 : List (Str × Gt) := [("_law_begin", .fn (.df 131)),
  ("laid", .fn (.df 27)),
  ("Modes", .fn (.cl 0)),
  ("int", .fn .int),
  ("TAB", .val 4),
  ("place", .fn (.df 28)),
  ("Screen", .fn (.cl 4)),
  ("_law_next", .fn (.df 132)),
  ("min", .fn .min),
  ("shown", .fn (.df 21)),
  ("cells", .fn (.df 26)),
  ("tuple", .fn .tuple)]
def gl1 : List (Str × Gt) := [("len", .fn .len),
  ("list", .fn .list),
  ("all_cells", .fn (.df 23)),
  ("cells_of", .fn (.df 22)),
  ("in_rows", .fn (.df 24)),
  ("range", .rng),
  ("place_behind", .fn (.df 25)),
  ("isinstance", .isi),
  ("all_of", .fn (.df 6)),
  ("ROOM", .val 2),
  ("HIGH", .val 3),
  ("LOW", .val 4)]
def gl2 : List (Str × Gt) := [("SIGNS", .val 1),
  ("wrong_number", .fn (.df 5)),
  ("bool", .tbool),
  ("are_marks", .fn (.df 4)),
  ("is_wide", .fn (.df 3)),
  ("any", .fn .any),
  ("str", .fn .str),
  ("are_unlike", .fn (.df 2)),
  ("all", .fn .all),
  ("is_sign", .fn (.df 0)),
  ("set", .setf),
  ("FIRST_SIGN", .val 2)]
def gl3 : List (Str × Gt) := [("LAST_SIGN", .val 6),
  ("PERCENT", .val 7),
  ("ord", .fn .ord),
  ("NO_KEY", .val 5),
  ("NAMES", .val 0),
  ("is_number", .fn (.df 1)),
  ("MOST", .val 8),
  ("MOST_TAB", .val 9),
  ("law", .fn (.df 133))]
def gl : List (Str × Gt) := gl0 ++ gl1 ++ gl2 ++ gl3
def txt : Text := ⟨[e0, e1, e2, e3, e4, e5, e6, e7, e8, e9, e10, e11, e12, e133, e133, e133, e133, e133, e133, e133, e133, e21, e22, e23, e24, e25, e26, e27, e28, e133, e133, e133, e133, e133, e133, e133, e133, e133, e133, e133, e133, e133, e133, e133, e133, e133, e133, e133, e133, e133, e133, e133, e133, e133, e133, e133, e133, e57, e58, e59, e60, e61, e62, e133, e133, e133, e133, e133, e133, e133, e133, e133, e133, e133, e133, e133, e133, e133, e133, e133, e133, e133, e133, e133, e133, e133, e133, e133, e133, e133, e133, e133, e133, e133, e133, e133, e133, e133, e133, e133, e133, e133, e133, e133, e133, e133, e133, e133, e133, e133, e133, e133, e133, e133, e133, e133, e133, e133, e133, e133, e133, e133, e133, e133, e133, e133, e133, e133, e133, e133, e133, e131, e132, e133],
  [⟨"Modes", Pg.c_Modes, true⟩,
  ⟨"Waiting", Pg.c_Waiting, false⟩,
  ⟨"Keeping", Pg.c_Keeping, false⟩,
  ⟨"Reads", Pg.c_Reads, false⟩,
  ⟨"Screen", Pg.c_Screen, true⟩,
  ⟨"Showing", Pg.c_Showing, false⟩,
  ⟨"Line", Pg.c_Line, false⟩,
  ⟨"Play", Pg.c_Play, false⟩],
  Pg.glb,
  gl, [.columns, .echo, .flow, .flush, .high, .least, .lines, .low, .marks, .pause, .room, .signals, .standing, .tab, .wide], [("NO_KEY", 32)], 400⟩
def loose0 : List Str := ["_wall",
  "shown",
  "cells_of",
  "all_cells",
  "in_rows",
  "place_behind",
  "cells",
  "laid",
  "place",
  "LineError",
  "BadModes",
  "NoKey"]
def loose1 : List Str := ["TooFar",
  "NAMES",
  "SIGNS",
  "ROOM",
  "HIGH",
  "LOW",
  "TAB",
  "NO_KEY",
  "FIRST_SIGN",
  "LAST_SIGN",
  "PERCENT",
  "MOST"]
def loose2 : List Str := ["MOST_TAB",
  "is_sign",
  "is_number",
  "are_unlike",
  "is_wide",
  "are_marks",
  "wrong_number",
  "all_of",
  "Modes",
  "Screen",
  "_law_begin",
  "_law_next"]
def loose : List Str := loose0 ++ loose1 ++ loose2
end Tk62
namespace Tk62
open PySem PySem.W PySem.Calls EvS HandSHeadRun
abbrev R : OpenLaw := PySem.Challenge.rw_keyedline_k62_by_names_of_two
theorem ok : txt.ok = true := by decide +kernel
set_option maxHeartbeats 0 in
theorem run (w : World) : RunEq R.row (view R.row.prog [41]) (hookT 4 txt) (obT 4 txt) 6000 loose w := by
  intro os
  kernel_rfl
-- law: statement 41 of the top, def 133; classes ['Modes', 'Screen']
end Tk62
set_option Elab.async false
set_option linter.all false
set_option maxRecDepth 100000
set_option maxHeartbeats 2000000
namespace Tk62
open Ev Pg Sp SpA
abbrev tb : Tab := txt.tab
variable {fuel : Nat} {shows : Dt → Option Txt} {n : Nat} {h : Heap}
theorem pmd : PMd tb := ⟨rfl, rfl, rfl, rfl, rfl, rfl, rfl, rfl, rfl⟩
theorem shown_sp {c : Nat} : @Wp D (callK tb fuel shows (n + 1) 21 [.str [c]] h) ⟨fun d h' => d = .str (if c = 10 then [94, 74] else [c]) ∧ h = h'⟩ := by
  refine w_def (fd := f_shown) rfl ⟨rfl, by simp [f_shown]⟩ ?_
  simp (maxDischargeDepth := 20) [f_shown, b_shown]
theorem md_ok {t : Nat} (tb : 1 ≤ t ∧ t ≤ 16) : ({ tab := t, wide := [87] } : Md).Ok :=
  ⟨⟨(by decide : 1 ≤ 99), (by decide : 0 ≤ 99), (by decide : 1 ≤ 32), (by decide : 32 ≤ 99), (by decide : 1 ≤ 24), (by decide : 24 ≤ 32), (by decide : 8 + 1 ≤ 24), tb.1, tb.2⟩, ⟨(by decide : wideOk [87] = true), (by decide : ([87] : Txt).length < 4000)⟩, (by decide : marksOk [35, 64, 42, 94, 33, 40, 41, 60, 62, 38] = true)⟩
def nears : List Txt := [[], [97], [97, 98]]
/-- how many cells near, a tab, a wide sign take -/
def took (l w t : Nat) : Nat := min ((l / t + 1) * t) w + 2 + (if (l / t + 1) * t = w - 1 then 1 else 0)
theorem near_cells {s : Txt} (hs : s ∈ nears) (w t : Nat) : allCells 0 w t [87] s = s.map (fun c => [c]) := by
  simp [nears] at hs
  rcases hs with rfl | rfl | rfl <;> simp [allCells, cellsOf]
theorem near_len {s : Txt} (hs : s ∈ nears) : s.length ≤ 2 := by
  simp [nears] at hs
  rcases hs with rfl | rfl | rfl <;> simp
theorem snoc (at_ w t : Nat) (far s : Txt) (c : Nat) : allCells at_ w t far (s ++ [c]) = allCells at_ w t far s ++ cellsOf c (at_ + (allCells at_ w t far s).length) w t far := by
  unfold allCells
  rw [List.foldl_append]
  rfl
theorem text_len {s : Txt} (hs : s ∈ nears) {w t : Nat} (hw : 10 ≤ w) (ht : 1 ≤ t) : (allCells 0 w t [87] (s ++ [9, 87])).length = took s.length w t := by
  have l := near_len hs
  rw [show s ++ [9, 87] = (s ++ [9]) ++ [87] by simp, snoc, snoc, near_cells hs]
  have hd := Nat.div_add_mod s.length t
  have hm := Nat.mod_lt s.length (show 0 < t by omega)
  have e1 : (s.length / t + 1) * t = s.length + (t - s.length % t) := by rw [Nat.succ_mul, Nat.mul_comm]; omega
  unfold took
  rw [e1]
  simp [cellsOf]
  rw [Nat.mod_eq_of_lt (show s.length < w by omega)]
  have q0 : 1 ≤ t - s.length % t := by omega
  generalize t - s.length % t = q at q0 ⊢
  generalize s.length = m at l ⊢
  by_cases z : m + q < w
  · rw [Nat.min_eq_left (show q ≤ w - m by omega), Nat.mod_eq_of_lt z, Nat.min_eq_left (Nat.le_of_lt z)]
    by_cases z2 : m + q = w - 1
    · rw [if_pos (by omega), if_pos z2]
      simp
      omega
    · rw [if_neg (by omega), if_neg z2]
      simp
      omega
  · rw [Nat.min_eq_right (show w - m ≤ q by omega), Nat.min_eq_right (show w ≤ m + q by omega), show m + (w - m) = w by omega, Nat.mod_self, if_neg (by omega), if_neg (by omega)]
    simp
    omega
theorem eqm {r : Option (D × Heap)} {k : Kc D} (w : @Wp D r ⟨fun d h' => ∃ b, d = .bl b ∧ k.go (.bl b) h'⟩) : @Wp D (match (generalizing := false) r with
    | some (.bl b, h2) => some (.bl b, h2)
    | _ => none) k := by
  obtain ⟨d, h', e, b, rfl, q⟩ := w.to
  rw [e]
  exact q
theorem main62 (ns : List Int) : @Wp D (callK tb fuel shows (n + 6) 133 [.ref 0] ⟨[.fro (ns.map .int)]⟩) ⟨fun d h' => d = .bl true⟩ := by
  refine w_def (fd := f_law) rfl ⟨rfl, by simp [f_law]⟩ ?_
  have g0 : (⟨[.fro (ns.map .int)]⟩ : Heap).get 0 = some (.fro (ns.map .int)) := rfl
  generalize (⟨[.fro (ns.map .int)]⟩ : Heap) = h at g0 ⊢
  simp (maxDischargeDepth := 20) [f_law, b_law]
  refine call_plain (fd := SpA.f_begin) rfl rfl rfl (SpA.begin_sp rfl g0) ?_
  rintro _ h1 ⟨a, b, rfl, dr, x1, la, lb⟩
  have nx : ∀ (h : Heap) (m : Int), Dr h a b → 0 < m → m < 1073741824 → _ := fun h m d h0 h1 => SpA.next_sp (tab := tb) (fuel := fuel) (shows := shows) (n := n + 4) (h := h) (i := 132) (a := a) (b := b) (m := m) rfl d h0 h1
  simp
  refine call_plain (fd := SpA.f_next) rfl rfl rfl (nx h1 51 dr (by decide) (by decide)) ?_
  rintro _ h2 ⟨j1, rfl, l1, dr2, _⟩
  simp
  refine call_plain (fd := SpA.f_next) rfl rfl rfl (nx h2 9 dr2 (by decide) (by decide)) ?_
  rintro _ h3 ⟨j2, rfl, l2, dr3, _⟩
  obtain ⟨w, ew, w1, w2⟩ : ∃ w : Nat, (10 : Int) + (j1 : Int) = (w : Int) ∧ 10 ≤ w ∧ w ≤ 60 := ⟨10 + j1, by omega, by omega, by omega⟩
  obtain ⟨t, et, t1, t2⟩ : ∃ t : Nat, (1 : Int) + (j2 : Int) = (t : Int) ∧ 1 ≤ t ∧ t ≤ 9 := ⟨1 + j2, by omega, by omega, by omega⟩
  simp
  rw [ew, et]
  refine call_plain (fd := SpA.f_next) rfl rfl rfl (nx h3 3 dr3 (by decide) (by decide)) ?_
  rintro _ h4 ⟨j3, rfl, l3, dr4, _⟩
  obtain ⟨s, es, hs⟩ : ∃ s, cut [97, 98] none (some (j3 : Int)) = s ∧ s ∈ nears := by
    refine ⟨_, rfl, ?_⟩
    rw [cut_to]
    have : j3 = 0 ∨ j3 = 1 ∨ j3 = 2 := by omega
    rcases this with rfl | rfl | rfl <;> simp [nears]
  have sl := near_len hs
  simp
  rw [es]
  refine ⟨by omega, ?_⟩
  refine modes_new (m := { tab := t, wide := [87] }) (n := n + 1) pmd (md_ok ⟨t1, by omega⟩) rfl ?_
  intro h5 g5 x5
  generalize h4.size = ma at g5 ⊢
  simp
  obtain ⟨fst, hf⟩ : ∃ fst : Nat, fst = (s.length / t + 1) * t := ⟨_, rfl⟩
  have ef : ((s.length : Int) / (t : Int) + 1) * (t : Int) = (fst : Int) := by rw [hf]; push_cast; rfl
  have lf : s.length / t ≤ s.length := Nat.div_le_self _ _
  obtain ⟨tk, htk⟩ : ∃ tk, tk = took s.length w t := ⟨_, rfl⟩
  have etk : (if (w : Int) < (fst : Int) then (w : Int) else (fst : Int)) + 2 + (if (fst : Int) = (w : Int) - 1 then (1 : Int) else 0) = (tk : Int) := by
    rw [htk, took, ← hf]
    by_cases z : w < fst
    · rw [if_pos (by omega), Nat.min_eq_right (by omega)]
      by_cases z2 : fst = w - 1
      · rw [if_pos (by omega), if_pos z2]; omega
      · rw [if_neg (by omega), if_neg z2]; omega
    · rw [if_neg (by omega), Nat.min_eq_left (by omega)]
      by_cases z2 : fst = w - 1
      · rw [if_pos (by omega), if_pos z2]; omega
      · rw [if_neg (by omega), if_neg z2]; omega
  have tk1 : s.length ≤ tk := by
    have := text_len (s := s) hs (w := w) (t := t) w1 t1
    rw [← htk, show s ++ [9, 87] = (s ++ [9]) ++ [87] by simp, snoc, snoc, near_cells hs] at this
    simp at this
    omega
  have tk2 : tk ≤ w + 3 := by
    rw [htk, took]
    have := Nat.min_le_right ((s.length / t + 1) * t) w
    split <;> omega
  have lt := text_len (s := s) hs (w := w) (t := t) w1 t1
  rw [← htk] at lt
  refine ⟨⟨by omega, by omega⟩, mul_ok (by omega), ?_⟩
  refine call_named (fd := f_shown) rfl (shown_sp (n := n + 4)) rfl ?_
  rintro _ _ ⟨rfl, rfl⟩
  simp
  rw [ef, etk]
  have W1 := fun (h : Heap) (ga : h.get ma = some ({ tab := t, wide := [87] } : Md).cell) (text : Txt) (at_ : Nat) (hl : text.length ≤ 16000) => cells_sp (tab := tb) (fuel := fuel) (shows := shows) (n := n + 2) (h := h) (text := text) (at_ := at_) (w := w) (a := ma) (m := { tab := t, wide := [87] }) rfl rfl rfl ga (by omega) (by omega) t1 hl
  have W2 := fun (h : Heap) (ga : h.get ma = some ({ tab := t, wide := [87] } : Md).cell) (text : Txt) (hl : text.length ≤ 16000) => place_sp (tab := tb) (fuel := fuel) (shows := shows) (n := n + 2) (h := h) (text := text) (w := w) (a := ma) (m := { tab := t, wide := [87] }) rfl rfl rfl rfl ga (by omega) (by omega) t1 hl
  have W3 := fun (h : Heap) (ga : h.get ma = some ({ tab := t, wide := [87] } : Md).cell) (text : Txt) (hl : text.length ≤ 16000) => laid_sp (tab := tb) (fuel := fuel) (shows := shows) (n := n + 2) (h := h) (text := text) (w := w) (a := ma) (m := { tab := t, wide := [87] }) rfl rfl rfl rfl ga (by omega) (by omega) t1 hl
  refine call_named (fd := f_cells) rfl (W1 h5 g5 (s ++ [9, 87]) 0 (by simp; omega)) rfl ?_
  rintro _ h6 ⟨rfl, x6⟩
  have g6 := Ext.get x6 g5
  simp [lt]
  rw [show (w : Int) - 1 = ((w - 1 : Nat) : Int) by omega]
  refine call_named (fd := f_cells) rfl (W1 h6 g6 [87] (w - 1) (by simp)) rfl ?_
  rintro _ h7 ⟨rfl, x7⟩
  have g7 := Ext.get x7 g6
  have l3' : (allCells (w - 1) w t [87] [87]).length = 3 := by
    have m1 : (w - 1) % w = w - 1 := Nat.mod_eq_of_lt (by omega)
    simp [allCells, cellsOf, m1]
    rw [if_pos (by omega)]
    rfl
  simp [l3', show tb.glb = glb from rfl, glb]
  refine call_named (fd := f_place) rfl (W2 h7 g7 (s ++ [9, 87]) (by simp; omega)) rfl ?_
  rintro _ h8 ⟨rfl, x8⟩
  have g8 := Ext.get x8 g7
  simp [lt, eqV, dat, DEEP, Dt.eqv, Dt.eqvs]
  refine ⟨⟨by omega, by omega⟩, by omega, ?_⟩
  refine call_named (fd := f_laid) rfl (W3 h8 g8 s (by omega)) rfl ?_
  rintro _ h9 ⟨rfl, x9⟩
  have g9 := Ext.get x9 g8
  have rw1 : rowsOf (allCells 0 w t [87] s) w = [s.map (fun c => [c]) ++ List.replicate (w - s.length) [32]] := by
    rw [near_cells hs]
    simp [rowsOf, Nat.div_eq_of_lt (show s.length < w by omega)]
    rw [List.take_of_length_le (by simp; omega)]
  simp (maxDischargeDepth := 20) [rw1]
  rw [show (w : Int) - (s.length : Int) = ((w - s.length : Nat) : Int) by omega, rep_nat]
  have eR : ∀ h : Heap, eqV (.tup [.tup (s.map (D.str ∘ fun c => [c]) ++ List.replicate (w - s.length) (.str [32]))]) (.tup [.tup (s.map (fun c => D.str [c]) ++ List.replicate (w - s.length) (.str [32]))]) h = some true := fun h => by
    have q := dat_rows40 h [s.map (fun c => [c]) ++ List.replicate (w - s.length) [32]]
    have e1 : [s.map (fun c => [c]) ++ List.replicate (w - s.length) [32]].map (fun r => D.tup (r.map D.str)) = [.tup (s.map (fun c => D.str [c]) ++ List.replicate (w - s.length) (.str [32]))] := by simp
    rw [e1] at q
    exact eqV_same q q
  rw [eR]
  refine ⟨⟨by omega, by omega⟩, by simp; omega, ?_⟩
  generalize hH : (((h9.new (Cell.lst (s.map fun c => D.str [c]))).new (Cell.lst [D.str [32]])).new (Cell.lst (List.replicate (w - s.length) (D.str [32])))).new (Cell.lst (s.map (fun c => D.str [c]) ++ List.replicate (w - s.length) (D.str [32]))) = h10
  simp
  refine scr_new (w := w) (t := t) (far := [87]) (n := n + 4) rfl rfl rfl ?_
  intro h11 s1 sc1 x11 z1
  simp
  refine scr_new (w := w) (t := t) (far := [87]) (n := n + 4) rfl rfl rfl ?_
  intro h12 s2 sc2 x12 z2
  have lt1 := sc1.lt
  have sc12 := sc1.ext x12
  generalize h10.size = p1 at *
  generalize h11.size = p2 at *
  have q1 := sc12.2.1
  simp [q1, scrFs, flook, show tb.clss = clss from rfl, clss, c_Screen, mlook]
  have Tl : (allCells ([] : List Txt).length w t [87] (s ++ [9, 87])).length = tk := lt
  generalize hT : allCells ([] : List Txt).length w t [87] (s ++ [9, 87]) = T at Tl
  have S1 := fun (h : Heap) (a s' : Nat) (sc : Scr h a s' w t [87] []) => scr_show_sp (tab := tb) (fuel := fuel) (shows := shows) (n := n + 2) (h := h) (a := a) (s := s') (w := w) (t := t) (far := [87]) (text := s ++ [9, 87]) (things := []) rfl rfl rfl sc (by omega) (by omega) t1 (by simp; omega) (by simp)
  rw [hT] at S1
  refine call_named (fd := f_Screen_show) rfl (S1 h12 p1 s1 sc12) rfl ?_
  rintro _ h13 ⟨rfl, sc13, o13⟩
  have sc23 := sc2.old o13 (by omega) (by omega)
  have q2 := sc23.2.1
  simp [q2, scrFs, flook, show tb.clss = clss from rfl, clss, c_Screen, mlook]
  refine call_named (fd := f_Screen_show) rfl (S1 h13 p2 s2 sc23) rfl ?_
  rintro _ h14 ⟨rfl, sc24, o14⟩
  have sc14 := sc13.old o14 (by omega) (by omega)
  have q3 := sc14.2.1
  rw [List.nil_append] at sc14 sc24
  have E1 := fun (h : Heap) (a s' b s2' : Nat) (T : List Txt) (l : T.length ≤ 16016000) (sc : Scr h a s' w t [87] T) (sc' : Scr h b s2' w t [87] T) => scr_eq_sp (tab := tb) (fuel := fuel) (shows := shows) (n := n + 2) (h := h) (a := a) (s := s') (b := b) (s' := s2') (w := w) (t := t) (far := [87]) (things := T) rfl rfl rfl rfl rfl rfl sc sc' (by omega) (by omega) l
  simp [q3, scrFs, flook, show tb.clss = clss from rfl, clss, c_Screen, mlook]
  refine eqm ?_
  refine call_plain (fd := f_Screen_eq) rfl rfl rfl (E1 h14 p1 s1 p2 s2 T (by omega) sc14 sc24) ?_
  rintro _ h15 ⟨rfl, x15⟩
  refine ⟨true, rfl, ?_⟩
  have sc15 := sc14.ext x15
  have q5 := sc15.2.1
  simp [q5, scrFs, flook, show tb.clss = clss from rfl, clss, c_Screen, mlook]
  refine call_plain (fd := f_Screen_where) rfl rfl rfl (scr_where_sp (tab := tb) (fuel := fuel) (shows := shows) (n := n + 3) rfl rfl sc15 (by omega) (by omega)) ?_
  rintro _ h16 ⟨rfl, x16⟩
  have sc16 := sc15.ext x16
  have q6 := sc16.2.1
  simp [Tl, eqV, dat, DEEP, Dt.eqv, Dt.eqvs]
  simp [q6, scrFs, flook, show tb.clss = clss from rfl, clss, c_Screen, mlook]
  rw [show (tk : Int) - (s.length : Int) = ((tk - s.length : Nat) : Int) by omega]
  refine ⟨⟨by omega, by omega⟩, by omega, ?_⟩
  refine call_named (fd := f_Screen_back) rfl (scr_back_sp (tab := tb) (fuel := fuel) (shows := shows) (n := n + 4) (many := tk - s.length) rfl sc16 (by omega)) rfl ?_
  rintro _ h17 ⟨rfl, sc17, o17⟩
  rw [show T.length - (tk - s.length) = s.length by omega] at sc17
  have tkT : T.take s.length = s.map (fun c => [c]) := by
    rw [← hT, show s ++ [9, 87] = (s ++ [9]) ++ [87] by simp, snoc, snoc]
    have := near_cells hs w t
    simp only [List.length_nil]
    rw [this, List.append_assoc]
    exact List.take_left' (by simp)
  rw [tkT] at sc17
  have q7 := sc17.2.1
  simp [q7, scrFs, flook, show tb.clss = clss from rfl, clss, c_Screen, mlook]
  refine call_plain (fd := f_Screen_rows) rfl rfl rfl (scr_rows_sp (tab := tb) (fuel := fuel) (shows := shows) (n := n + 3) rfl rfl sc17 (by omega) (by omega) (by simp; omega)) ?_
  rintro _ h18 ⟨rfl, x18⟩
  rw [← near_cells hs w t, rw1]
  simp
  have eR2 : ∀ h : Heap, eqV (.tup [.tup (s.map (D.str ∘ fun c => [c]) ++ List.replicate (w - s.length) (.str [32]))]) (.tup [.tup (s.map (D.str ∘ fun c => [c]) ++ List.replicate (w - s.length) (.str [32]))]) h = some true := fun h => eR h
  rw [eR2]
  simp
  refine scr_new (w := w) (t := 8) (far := []) (n := n + 4) rfl rfl rfl ?_
  intro h19 s3 sc19 x19 z3
  have q9 := sc19.2.1
  simp [q9, scrFs, flook]
  refine scr_new (w := w) (t := 8) (far := []) (n := n + 4) rfl rfl rfl ?_
  intro h20 s4 sc20 x20 z4
  have q10 := sc20.2.1
  simp [q10, scrFs, flook, show tb.glb = glb from rfl, glb, eqV, dat, DEEP, Dt.eqv, Dt.eqvs]
theorem law62 (ns : List Int) (hns : ns.length ≤ 63) : ∃ h', callK tb 1000 EvS.showsT 6 133 [.ref 0] ⟨[.fro (ns.map .int)]⟩ = some (.bl true, h') := by
  obtain ⟨d, h', e, rfl⟩ := (main62 (fuel := 1000) (shows := EvS.showsT) (n := 0) ns).to
  exact ⟨h', e⟩
end Tk62
open PySem PySem.W PySem.Calls EvS HandSHeadRun
theorem PySem.Challenge.cw_keyedline_k62_by_names_of_two_holds : PySem.Challenge.rw_keyedline_k62_by_names_of_two.Holds := by
  w_on; o_law
  refine law_of (l := PySem.Challenge.rw_keyedline_k62_by_names_of_two) (q := view (OpenLaw.row PySem.Challenge.rw_keyedline_k62_by_names_of_two).prog [41]) (loose := Tk62.loose) (d := topDef (OpenLaw.row PySem.Challenge.rw_keyedline_k62_by_names_of_two).prog 41) (kwd := []) (T := Tk62.txt) (n := 4) (M := 6000) (i := 133) (k := 6) (fuel := 1000) (t := Tk62.e133) (x := "_law_script") rfl Tk62.run
    (by kernel_rfl) (fun s => by kernel_rfl) (by kernel_rfl) (by kernel_rfl) (by kernel_rfl) rfl (by rfl) (by first | assumption | decide +kernel) (by decide +kernel) ⟨rfl, rfl, rfl, rfl, rfl, by decide +kernel⟩ ?hw Tk62.ok rfl (by kernel_rfl) rfl rfl ⟨rfl, by decide, by decide⟩ Tk62.law62
  case hw => w_witness2
