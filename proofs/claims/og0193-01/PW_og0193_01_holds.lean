import PyProof.Rows.All
import Wide.All
import OpenK.AllK
import Wide.FinOn
import KE.KIsAll
import KE.KBytesWalk
import KE.LcTurns
import KE.KRevIter
import KE.KUnpack
import KE.KDictSum
import KE.KDictOf
import KE.BytesMake
import PyProof.AttrMissHeap
import ObjForm.ListNI
import PyProof.Rows.StrWeight2
import PySem.Challenge.RW_og0193_01
set_option Elab.async false
set_option linter.all false
section
set_option maxRecDepth 100000
namespace Mine
open PySem

/-! own words: a small evaluator over trees, for the part of the language that the law reaches -/

noncomputable def nEq : List Nat → List Nat → Bool
  | [], [] => true
  | a :: x, b :: y => match Nat.beq a b with
    | true => nEq x y
    | false => false
  | _, _ => false
/-- a number for a text: other numbers, other texts -/
noncomputable def code (a : Str) : Nat := a.cps.toList.foldl (fun h c => h * 1114112 + c) 1
noncomputable def sEq (a b : Str) : Bool := match Nat.beq (code a) (code b) with
  | true => nEq a.cps.toList b.cps.toList
  | false => false

inductive FN where
  | refInit | nameInit | stringInit | lookupInit | configInit | fieldInit | walkInit
  | refPair | fetch | get | numbers | root | shelfTold
  | kind_of | told_plain | told | accent_signs | mark_signs | sign_of | text_of | home_of
  | whole_in | form_of | row_in | own_name | longer_name | kind_word | with_inherited | new_node | is_field | own_widgets | walked_form
  | text_in | value_in | node_faults | value_faults | field_faults
  | word_at | items_at | is_group | groups_in | layer_head | group_numbers | purposes | configuration_of | configuration
  | starting_states | crowded_rows | order_rows | layer_faults | rows_text | flaws_text | law_draw | law_refs | law
  deriving DecidableEq

inductive CN where
  | Decimal | Name | String | Stream | Reference | Shelf | Field | FormWalk | Configuration
  deriving DecidableEq
inductive BI where
  | len | str | list | tuple | dict | sorted | reversed | range | isinstance | chr | bytes | bool | int
  deriving DecidableEq

inductive Key where
  | i (n : Int)
  | s (x : Str)
noncomputable def Key.eq : Key → Key → Bool
  | .i a, .i b => decide (a = b)
  | .s a, .s b => sEq a b
  | _, _ => false

inductive T where
  | none
  | bool (b : Bool)
  | int (n : Int)
  | str (x : Str)
  | bytes (b : List UInt8)
  | fn (f : FN)
  | cls (c : CN)
  | bi (b : BI)
  | list (ts : List T)
  | tup (ts : List T)
  | dict (ks : List Key) (ts : List T)
  | inst (c : CN) (ns : List Str) (ts : List T)

inductive AV where
  | t (x : T)
  | own (i : Nat)

inductive OObj where
  | list (ts : List T)
  | dict (ks : List Key) (ts : List T)
  | inst (c : CN) (ns : List Str) (vs : List AV)
  | frz (t : T)

noncomputable abbrev Sg := List OObj
noncomputable abbrev Ga := List (Str × AV)

noncomputable def lkS {α : Type} (x : Str) : List (Str × α) → Option α
  | [] => none
  | (y, v) :: r => match sEq x y with
    | true => some v
    | false => lkS x r
noncomputable def putS {α : Type} (x : Str) (v : α) : List (Str × α) → List (Str × α)
  | [] => [(x, v)]
  | (y, u) :: r => match sEq x y with
    | true => (y, v) :: r
    | false => (y, u) :: putS x v r
noncomputable def lkK {α : Type} (k : Key) : List Key → List α → Option α
  | q :: ks, v :: vs => match k.eq q with
    | true => some v
    | false => lkK k ks vs
  | _, _ => none
/-- place v at key k: the old entry's place, or behind -/
noncomputable def putK {α : Type} (k : Key) (v : α) : List Key → List α → List Key × List α
  | q :: ks, u :: vs => match k.eq q with
    | true => (q :: ks, v :: vs)
    | false => match putK k v ks vs with
      | (ks', vs') => (q :: ks', u :: vs')
  | _, _ => ([k], [v])
noncomputable def lkN {α : Type} (n : Str) : List Str → List α → Option α
  | q :: ns, v :: vs => match sEq n q with
    | true => some v
    | false => lkN n ns vs
  | _, _ => none
noncomputable def putN {α : Type} (n : Str) (v : α) : List Str → List α → List Str × List α
  | q :: ns, u :: vs => match sEq n q with
    | true => (q :: ns, v :: vs)
    | false => match putN n v ns vs with
      | (ns', vs') => (q :: ns', u :: vs')
  | _, _ => ([n], [v])

/-- the tree of a value; an own object is frozen -/
noncomputable def frzL (σ : Sg) (i : Nat) : Option T := match σ[i]? with
  | some (.list ts) => some (.list ts)
  | some (.dict ks ts) => some (.dict ks ts)
  | some (.frz t) => some t
  | _ => none
noncomputable def frzV1 (σ : Sg) : AV → Option (T × Sg)
  | .t x => some (x, σ)
  | .own i => match frzL σ i with
    | some t => some (t, σ.set i (.frz t))
    | none => none
noncomputable def frzVs (σ : Sg) : List AV → Option (List T × Sg)
  | [] => some ([], σ)
  | v :: r => match frzV1 σ v with
    | some (t, σ) => match frzVs σ r with
      | some (ts, σ) => some (t :: ts, σ)
      | none => none
    | none => none
noncomputable def frz (σ : Sg) : AV → Option (T × Sg)
  | .t x => some (x, σ)
  | .own i => match σ[i]? with
    | some (.inst c ns vs) => match frzVs σ vs with
      | some (ts, σ) => match σ[i]? with
        | some (.inst ..) => some (.inst c ns ts, σ.set i (.frz (.inst c ns ts)))
        | _ => none
      | none => none
    | _ => frzV1 σ (.own i)
/-- several, each frozen -/
noncomputable def frzs (σ : Sg) : List AV → Option (List T × Sg)
  | [] => some ([], σ)
  | v :: r => match frz σ v with
    | some (t, σ) => match frzs σ r with
      | some (ts, σ) => some (t :: ts, σ)
      | none => none
    | none => none

/-- what an own object is, seen without freezing it -/
noncomputable def look (σ : Sg) : AV → Option T
  | .t x => some x
  | .own i => frzL σ i

noncomputable def intsOf : List T → Option (List Int)
  | [] => some []
  | .int n :: r => (intsOf r).map (n :: ·)
  | _ => none
noncomputable def strsOf : List T → Option (List Str)
  | [] => some []
  | .str n :: r => (strsOf r).map (n :: ·)
  | _ => none

noncomputable def sizeOk (n : Nat) : Bool := Nat.ble n 1000
noncomputable def strOk (x : Str) : Bool := Nat.ble x.cps.toList.length 100000
noncomputable def shortS (x : Str) : Bool := Nat.ble x.cps.toList.length 1000
noncomputable def truthyT : T → Option Bool
  | .none => some false
  | .bool b => some b
  | .list ts => match sizeOk ts.length with
    | true => some !ts.isEmpty
    | false => none
  | .str x => match strOk x with
    | true => some !x.cps.toList.isEmpty
    | false => none
  | _ => none
noncomputable def isPrefixL : List Nat → List Nat → Bool
  | [], _ => true
  | a :: x, b :: y => Nat.beq a b && isPrefixL x y
  | _, [] => false
noncomputable def memN (x : Nat) : List Nat → Bool
  | [] => false
  | b :: y => match Nat.beq b x with
    | true => true
    | false => memN x y
noncomputable def catS (a b : Str) : Str := ⟨a.cps ++ b.cps⟩
noncomputable def joinS (sep : Str) : List Str → Str
  | [] => ⟨#[]⟩
  | [x] => x
  | x :: r => catS (catS x sep) (joinS sep r)

noncomputable def memInts (n : Int) : List Int → Bool
  | [] => false
  | m :: r => match decide (m = n) with
    | true => true
    | false => memInts n r
noncomputable def memStrs (n : Str) : List Str → Bool
  | [] => false
  | m :: r => match sEq m n with
    | true => true
    | false => memStrs n r

noncomputable def keyOf : T → Option Key
  | .int n => some (.i n)
  | .str x => some (.s x)
  | _ => none
noncomputable def keyT : Key → T
  | .i n => .int n
  | .s x => .str x

noncomputable def allInt : List Key → Bool
  | [] => true
  | .i _ :: r => allInt r
  | _ => false
noncomputable def allStr : List Key → Bool
  | [] => true
  | .s _ :: r => allStr r
  | _ => false

/-- the key is of the dict's keys' kind: the first one tells -/
noncomputable def kindOk (k : Key) (ks : List Key) : Bool := match k, ks with
  | _, [] => true
  | .i _, .i _ :: _ => true
  | .s _, .s _ :: _ => true
  | _, _ => false
noncomputable def lkD {α : Type} (k : Key) (ks : List Key) (ts : List α) : Option (Option α) := match kindOk k ks with
  | true => some (lkK k ks ts)
  | false => none
noncomputable def putD {α : Type} (k : Key) (t : α) (ks : List Key) (ts : List α) : Option (List Key × List α) := match kindOk k ks && Nat.ble ks.length 1000 with
  | true => some (putK k t ks ts)
  | false => none
/-- x in y -/
noncomputable def inT (x y : T) : Option Bool := match y with
  | .list ts => match x, intsOf ts with
    | .int n, some l => some (memInts n l)
    | _, _ => none
  | .tup ts => match x with
    | .int n => (intsOf ts).map (memInts n)
    | .str n => (strsOf ts).map (memStrs n)
    | _ => none
  | .dict ks ts => match keyOf x with
    | some k => (lkD k ks ts).map (·.isSome)
    | none => none
  | .str b => match x with
    | .str a => match a.cps.toList with
      | [c] => some (memN c b.cps.toList)
      | _ => none
    | _ => none
  | _ => none
noncomputable def eqTs (f : T → T → Bool) : List T → List T → Bool
  | [], [] => true
  | a :: x, b :: y => f a b && eqTs f x y
  | _, _ => false
noncomputable def isNoneT : T → Bool
  | .none => true
  | _ => false
noncomputable def leafEq (a b : T) : Bool := match a with
  | .none => isNoneT b
  | .bool x => match b with
    | .bool y => x == y
    | _ => false
  | .int x => match b with
    | .int y => decide (x = y)
    | _ => false
  | .str x => match b with
    | .str y => sEq x y
    | _ => false
  | .bytes x => match b with
    | .bytes y => decide (x = y)
    | _ => false
  | _ => false
noncomputable def seqOf : T → Option (Bool × List T)
  | .tup x => some (true, x)
  | .list x => some (false, x)
  | _ => none
/-- the same data -/
noncomputable def eqT : Nat → T → T → Bool
  | 0, a, b => leafEq a b
  | n + 1, a, b => match seqOf a with
    | some (k, x) => match seqOf b with
      | some (l, y) => (k == l) && eqTs (eqT n) x y
      | none => false
    | none => leafEq a b
/-- x == y, as far as it is needed -/
noncomputable def eqV (x y : T) : Option Bool := match x, y with
  | .int a, .int b => some (decide (a = b))
  | .str a, .str b => some (sEq a b)
  | .none, .none => some true
  | .list a, .list [] => some a.isEmpty
  | .tup a, .tup b => match eqT 50 (.tup a) (.tup b) with
    | true => some true
    | false => none
  | _, _ => none
/-- x != y, as far as it is needed -/
noncomputable def neV (x y : T) : Option Bool := match x, y with
  | .int a, .int b => some !(decide (a = b))
  | .str a, .str b => some !(sEq a b)
  | .list a, .list [] => some !a.isEmpty
  | _, _ => none
noncomputable def isNoneA : AV → Bool
  | .t .none => true
  | _ => false
noncomputable def isBiA : AV → Bool
  | .t (.bi _) => true
  | _ => false
noncomputable def cmpA (op : CmpOp) (σ : Sg) (a b : AV) : Option Bool := match op with
  | .Is => if isNoneA b && !isBiA a then some (isNoneA a) else none
  | .IsNot => if isNoneA b && !isBiA a then some !(isNoneA a) else none
  | .Eq => match look σ a, look σ b with
    | some x, some y => eqV x y
    | _, _ => none
  | .NotEq => match look σ a, look σ b with
    | some x, some y => neV x y
    | _, _ => none
  | .In => match look σ a, look σ b with
    | some x, some y => inT x y
    | _, _ => none
  | .NotIn => match look σ a, look σ b with
    | some x, some y => (inT x y).map (!·)
    | _, _ => none
  | .Lt => match a, b with
    | .t (.int x), .t (.int y) => some (decide (x < y))
    | _, _ => none
  | .LtE => match a, b with
    | .t (.int x), .t (.int y) => some (decide (x ≤ y))
    | _, _ => none
  | .Gt => match a, b with
    | .t (.int x), .t (.int y) => some (decide (y < x))
    | _, _ => none
  | .GtE => match a, b with
    | .t (.int x), .t (.int y) => some (decide (y ≤ x))
    | _, _ => none

noncomputable def intOk (n : Int) : Bool := decide (-1000000 ≤ n) && decide (n ≤ 1000000)
noncomputable def binA (op : Operator) (a b : T) : Option T := match op with
  | .Add => match a, b with
    | .int x, .int y => some (.int (x + y))
    | .str x, .str y => if strOk x && strOk y then some (.str (catS x y)) else none
    | .list x, .list y => if sizeOk (x.length + y.length) then some (.list (x ++ y)) else none
    | .tup x, .tup y => if sizeOk (x.length + y.length) then some (.tup (x ++ y)) else none
    | _, _ => none
  | .Sub => match a, b with
    | .int x, .int y => some (.int (x - y))
    | _, _ => none
  | .Mult => match a, b with
    | .int x, .int y => if intOk x && intOk y then some (.int (x * y)) else none
    | _, _ => none
  | .FloorDiv => match a, b with
    | .int x, .int y => if intOk x && intOk y && !decide (y = 0) then some (.int (x.fdiv y)) else none
    | _, _ => none
  | .Mod => match a, b with
    | .int x, .int y => if !decide (y = 0) then some (.int (x.fmod y)) else none
    | _, _ => none
  | _ => none

/-- a digit text -/
noncomputable def textInt (n : Int) : Str := Str.ofString (toString n)

/-- sorting of keys: by insertion -/
noncomputable def ltNs : List Nat → List Nat → Bool
  | [], [] => false
  | [], _ :: _ => true
  | _ :: _, [] => false
  | a :: x, b :: y => if Nat.blt a b then true else if Nat.blt b a then false else ltNs x y
noncomputable def Key.lt : Key → Key → Bool
  | .i a, .i b => decide (a < b)
  | .s a, .s b => ltNs a.cps.toList b.cps.toList
  | _, _ => false
noncomputable def insK (k : Key) : List Key → List Key
  | [] => [k]
  | q :: r => if k.lt q then k :: q :: r else q :: insK k r
noncomputable def sortK : List Key → List Key
  | [] => []
  | k :: r => insK k (sortK r)
noncomputable def pairsOf : List T → Option (List (Key × T))
  | [] => some []
  | .tup [a, b] :: r => match keyOf a, pairsOf r with
    | some k, some l => some ((k, b) :: l)
    | _, _ => none
  | _ => none
noncomputable def dictOfPairs : List (Key × T) → List Key × List T → Option (List Key × List T)
  | [], d => some d
  | (k, t) :: r, (ks, ts) => match putD k t ks ts with
    | some d => dictOfPairs r d
    | none => none

noncomputable def clsOfT : T → Option CN
  | .inst c _ _ => some c
  | _ => none
noncomputable def clsOf (σ : Sg) : AV → Option CN
  | .t x => clsOfT x
  | .own i => match σ[i]? with
    | some (.inst c _ _) => some c
    | some (.frz t) => clsOfT t
    | _ => none
/-- a plain tree's tag -/
noncomputable def tagT : T → Option Nat
  | .none => some 0
  | .bool _ => some 1
  | .int _ => some 2
  | .str _ => some 3
  | .tup _ => some 4
  | .list _ => some 5
  | .dict _ _ => some 6
  | _ => none
noncomputable def tagB : BI → Option Nat
  | .bool => some 1
  | .int => some 2
  | .list => some 5
  | .dict => some 6
  | _ => none
noncomputable def subTag (t u : Nat) : Bool := Nat.beq t u || (Nat.beq t 1 && Nat.beq u 2)
/-- isinstance of a tree -/
noncomputable def isiT (x : T) (c : T) : Option Bool := match c with
  | .cls c => match clsOfT x with
    | some d => some (decide (d = c))
    | none => (tagT x).map fun _ => false
  | .bi b => match tagB b with
    | some u => match clsOfT x with
      | some _ => some false
      | none => (tagT x).map fun t => subTag t u
    | none => none
  | _ => none

noncomputable def toks (bs : List UInt8) : List T := bs.map fun b => .int b.toNat
/-- what a for or a comprehension goes over -/
noncomputable def itemsOf : T → Option (List T)
  | .list ts => some ts
  | .tup ts => some ts
  | .dict ks _ => some (ks.map keyT)
  | .bytes b => some (toks b)
  | _ => none

/-- the built-ins that read trees alone; the flag: the answer is a new own object -/
inductive Ans where
  | t (x : T)
  | new (o : OObj)
noncomputable def bi1 (b : BI) (x : T) : Option Ans := match b with
  | .len => match x with
    | .list ts => if sizeOk ts.length then some (.t (.int ts.length)) else none
    | .str x => if strOk x then some (.t (.int x.cps.toList.length)) else none
    | _ => none
  | .str => match x with
    | .int n => if intOk n then some (.t (.str (textInt n))) else none
    | _ => none
  | .chr => match x with
    | .int n => if decide (0 ≤ n) && decide (n < 128) then some (.t (.str ⟨#[n.toNat]⟩)) else none
    | _ => none
  | .tuple => match x with
    | .list ts => if sizeOk ts.length then some (.t (.tup ts)) else none
    | _ => none
  | .list => match x with
    | .list ts => if sizeOk ts.length then some (.new (.list ts)) else none
    | _ => none
  | .bytes => match x with
    | .bytes b => some (.t (.bytes b))
    | _ => none
  | .dict => match x with
    | .list ts => match pairsOf ts with
      | some l => if sizeOk l.length then (match dictOfPairs l ([], []) with
        | some (ks, us) => some (.new (.dict ks us))
        | none => none) else none
      | none => none
    | .dict ks ts => if sizeOk ks.length then some (.new (.dict ks ts)) else none
    | _ => none
  | .sorted => match x with
    | .dict ks _ => if Nat.blt ks.length 64 then some (.t (.list ((sortK ks).map keyT))) else none
    | _ => none
  | _ => none
noncomputable def callBi (b : BI) (args : List T) : Option Ans := match args with
  | [x] => bi1 b x
  | [x, c] => match b with
    | .isinstance => (isiT x c).map fun b => .t (.bool b)
    | _ => none
  | _ => none

structure Cx where
  names : List (Str × NameKind)

inductive Fl where
  | next
  | ret (v : AV)

structure Rec where
  e : Cx → Ga → Sg → Expr → Option (AV × Sg)
  b : Cx → Ga → Sg → Expr → Option (Bool × Sg)
  x : Cx → Ga → Sg → List Stmt → Option (Fl × Ga × Sg)
  c : FN → List AV → Sg → Option (AV × Sg)

noncomputable def Rec.none : Rec := ⟨fun _ _ _ _ => .none, fun _ _ _ _ => .none, fun _ _ _ _ => .none, fun _ _ _ => .none⟩

noncomputable def top : List Stmt := PySem.Challenge.pw_og0193_01.main.body
noncomputable def isDef (n : Str) : Stmt → Bool
  | .FunctionDef m .. => sEq m n
  | .ClassDef m .. => sEq m n
  | _ => false
noncomputable def defOf (n : Str) (l : List Stmt) : Option Stmt := l.find? (isDef n)
noncomputable def methOf (c n : Str) (l : List Stmt) : Option Stmt := match defOf c l with
  | some (.ClassDef _ _ _ b ..) => defOf n b
  | _ => none
noncomputable def FN.stmt : FN → Option Stmt
  | .refInit => methOf "Reference" "__init__" top
  | .nameInit => methOf "Name" "__init__" top
  | .stringInit => methOf "String" "__init__" top
  | .lookupInit => methOf "Lookup" "__init__" top
  | .configInit => methOf "Configuration" "__init__" top
  | .fieldInit => methOf "Field" "__init__" top
  | .walkInit => methOf "FormWalk" "__init__" top
  | .refPair => methOf "Reference" "pair" top
  | .fetch => methOf "Lookup" "fetch" top
  | .get => methOf "Lookup" "get" top
  | .numbers => methOf "Shelf" "numbers" top
  | .root => methOf "Shelf" "root" top
  | .shelfTold => methOf "Shelf" "told" top
  | .kind_of => defOf "kind_of" top
  | .told_plain => defOf "told_plain" top
  | .told => defOf "told" top
  | .accent_signs => defOf "accent_signs" top
  | .mark_signs => defOf "mark_signs" top
  | .sign_of => defOf "sign_of" top
  | .text_of => defOf "text_of" top
  | .home_of => defOf "home_of" top
  | .whole_in => defOf "whole_in" top
  | .form_of => defOf "form_of" top
  | .row_in => defOf "row_in" top
  | .own_name => defOf "own_name" top
  | .longer_name => defOf "longer_name" top
  | .kind_word => defOf "kind_word" top
  | .with_inherited => defOf "with_inherited" top
  | .new_node => defOf "new_node" top
  | .is_field => defOf "is_field" top
  | .own_widgets => defOf "own_widgets" top
  | .walked_form => defOf "walked_form" top
  | .text_in => defOf "text_in" top
  | .value_in => defOf "value_in" top
  | .node_faults => defOf "node_faults" top
  | .value_faults => defOf "value_faults" top
  | .field_faults => defOf "field_faults" top
  | .word_at => defOf "word_at" top
  | .items_at => defOf "items_at" top
  | .is_group => defOf "is_group" top
  | .groups_in => defOf "groups_in" top
  | .layer_head => defOf "layer_head" top
  | .group_numbers => defOf "group_numbers" top
  | .purposes => defOf "purposes" top
  | .configuration_of => defOf "configuration_of" top
  | .configuration => defOf "configuration" top
  | .starting_states => defOf "starting_states" top
  | .crowded_rows => defOf "crowded_rows" top
  | .order_rows => defOf "order_rows" top
  | .layer_faults => defOf "layer_faults" top
  | .rows_text => defOf "rows_text" top
  | .flaws_text => defOf "flaws_text" top
  | .law_draw => defOf "_law_draw" top
  | .law_refs => defOf "_law_refs" top
  | .law => defOf "law" top
noncomputable def FN.body (f : FN) : List Stmt := match f.stmt with
  | some (.FunctionDef _ _ b ..) => b
  | _ => []
noncomputable def FN.names (f : FN) : List (Str × NameKind) := match f.stmt with
  | some (.FunctionDef _ _ _ _ _ _ sc ..) => sc.names
  | _ => []
noncomputable def FN.params (f : FN) : List Str := match f.stmt with
  | some (.FunctionDef _ a ..) => a.args.map (·.arg)
  | _ => []
/-- the defaults of the last parameters -/
noncomputable def FN.dflts : FN → List T
  | .stringInit => [.bool false]
  | .lookupInit => [.none, .none]
  | .configuration => [.int (-1)]
  | .starting_states => [.none]
  | .order_rows => [.int 0]
  | _ => []

noncomputable def CN.init : CN → Option FN
  | .Reference => some .refInit
  | .Name => some .nameInit
  | .String => some .stringInit
  | .Shelf => some .lookupInit
  | .Configuration => some .configInit
  | .Field => some .fieldInit
  | .FormWalk => some .walkInit
  | _ => none
noncomputable def meth (c : CN) (n : Str) : Option FN := match c with
  | .Reference => if sEq n "pair" then some .refPair else none
  | .Shelf => lkS n [(Str.ofString "fetch", FN.fetch), (Str.ofString "get", FN.get), (Str.ofString "numbers", FN.numbers), (Str.ofString "root", FN.root), (Str.ofString "told", FN.shelfTold)]
  | _ => none

noncomputable def globT : List (Str × T) := [
  (Str.ofString "Decimal", T.cls CN.Decimal), (Str.ofString "Name", T.cls CN.Name), (Str.ofString "String", T.cls CN.String), (Str.ofString "Stream", T.cls CN.Stream), (Str.ofString "Reference", T.cls CN.Reference), (Str.ofString "Shelf", T.cls CN.Shelf), (Str.ofString "Field", T.cls CN.Field), (Str.ofString "FormWalk", T.cls CN.FormWalk), (Str.ofString "Configuration", T.cls CN.Configuration),
  (Str.ofString "MOST_HOPS", T.int 30), (Str.ofString "MARK", T.bytes [254, 255]), (Str.ofString "MOST_NESTED", T.int 20), (Str.ofString "NOTHING", T.str (Str.ofString "none")),
  (Str.ofString "kind_of", T.fn FN.kind_of), (Str.ofString "told_plain", T.fn FN.told_plain), (Str.ofString "told", T.fn FN.told), (Str.ofString "told_objects", T.fn FN.told), (Str.ofString "accent_signs", T.fn FN.accent_signs), (Str.ofString "mark_signs", T.fn FN.mark_signs), (Str.ofString "sign_of", T.fn FN.sign_of), (Str.ofString "text_of", T.fn FN.text_of), (Str.ofString "home_of", T.fn FN.home_of),
  (Str.ofString "whole_in", T.fn FN.whole_in), (Str.ofString "form_of", T.fn FN.form_of), (Str.ofString "row_in", T.fn FN.row_in), (Str.ofString "own_name", T.fn FN.own_name), (Str.ofString "longer_name", T.fn FN.longer_name), (Str.ofString "kind_word", T.fn FN.kind_word), (Str.ofString "with_inherited", T.fn FN.with_inherited), (Str.ofString "new_node", T.fn FN.new_node),
  (Str.ofString "is_field", T.fn FN.is_field), (Str.ofString "own_widgets", T.fn FN.own_widgets), (Str.ofString "walked_form", T.fn FN.walked_form), (Str.ofString "text_in", T.fn FN.text_in), (Str.ofString "value_in", T.fn FN.value_in), (Str.ofString "node_faults", T.fn FN.node_faults), (Str.ofString "value_faults", T.fn FN.value_faults), (Str.ofString "field_faults", T.fn FN.field_faults),
  (Str.ofString "word_at", T.fn FN.word_at), (Str.ofString "items_at", T.fn FN.items_at), (Str.ofString "is_group", T.fn FN.is_group), (Str.ofString "groups_in", T.fn FN.groups_in), (Str.ofString "layer_head", T.fn FN.layer_head), (Str.ofString "group_numbers", T.fn FN.group_numbers), (Str.ofString "purposes", T.fn FN.purposes), (Str.ofString "configuration_of", T.fn FN.configuration_of), (Str.ofString "configuration", T.fn FN.configuration),
  (Str.ofString "starting_states", T.fn FN.starting_states), (Str.ofString "crowded_rows", T.fn FN.crowded_rows), (Str.ofString "order_rows", T.fn FN.order_rows), (Str.ofString "layer_faults", T.fn FN.layer_faults), (Str.ofString "rows_text", T.fn FN.rows_text), (Str.ofString "flaws_text", T.fn FN.flaws_text), (Str.ofString "_law_draw", T.fn FN.law_draw), (Str.ofString "_law_refs", T.fn FN.law_refs),
  (Str.ofString "len", T.bi BI.len), (Str.ofString "str", T.bi BI.str), (Str.ofString "list", T.bi BI.list), (Str.ofString "tuple", T.bi BI.tuple), (Str.ofString "dict", T.bi BI.dict), (Str.ofString "sorted", T.bi BI.sorted), (Str.ofString "reversed", T.bi BI.reversed), (Str.ofString "range", T.bi BI.range), (Str.ofString "isinstance", T.bi BI.isinstance), (Str.ofString "chr", T.bi BI.chr), (Str.ofString "bytes", T.bi BI.bytes), (Str.ofString "bool", T.bi BI.bool), (Str.ofString "int", T.bi BI.int)]

noncomputable def constT : Const → Option T
  | .none => some .none
  | .bool b => some (.bool b)
  | .int n => some (.int n)
  | .str x => some (.str x)
  | .bytes b => some (.bytes b)
  | _ => none

noncomputable def isDebug (x : Str) : Bool := sEq x "__debug__"
noncomputable def nameV (cx : Cx) (Γ : Ga) (x : Str) : Option AV := match isDebug x with
  | true => none
  | false => match lkS x cx.names with
    | some .local | some .cell | some .free => lkS x Γ
    | some .globalImplicit => (lkS x globT).map .t
    | _ => none
noncomputable def notStar : Expr → Bool
  | .Starred .. => false
  | _ => true
noncomputable def notSet : Expr → Bool
  | .Set .. => false
  | _ => true
noncomputable def notSlice : Expr → Bool
  | .Slice .. => false
  | _ => true
/-- an attribute's base that is no bare call of a name -/
noncomputable def plainBase : Expr → Bool
  | .Call (.Name ..) [] [] _ => false
  | _ => true
noncomputable def memS (x : Str) : List Str → Bool
  | [] => false
  | y :: r => match sEq x y with
    | true => true
    | false => memS x r
/-- the fields that a class's instances bear -/
noncomputable def CN.flds : CN → List Str
  | .Reference => [Str.ofString "number", Str.ofString "generation"]
  | .Name => [Str.ofString "text"]
  | .String => [Str.ofString "octets", Str.ofString "is_hex"]
  | .Shelf => [Str.ofString "table", Str.ofString "trailer"]
  | .Configuration => [Str.ofString "base", Str.ofString "on", Str.ofString "off", Str.ofString "radio", Str.ofString "locked", Str.ofString "order", Str.ofString "words"]
  | .Field => [Str.ofString "name", Str.ofString "reference", Str.ofString "above", Str.ofString "widgets", Str.ofString "head", Str.ofString "kind"]
  | .FormWalk => [Str.ofString "fields", Str.ofString "nodes", Str.ofString "seen"]
  | _ => []

section
variable (R : Rec) (cx : Cx) (Γ : Ga)
noncomputable def evs (σ : Sg) : List Expr → Option (List AV × Sg)
  | [] => some ([], σ)
  | e :: r => match notStar e with
    | true => match R.e cx Γ σ e with
      | some (v, σ) => match evs σ r with
        | some (vs, σ) => some (v :: vs, σ)
        | none => none
      | none => none
    | false => none
/-- each evaluated and frozen at once -/
noncomputable def evsT (σ : Sg) (es : List Expr) : Option (List T × Sg) := match evs R cx Γ σ es with
  | some (vs, σ) => frzs σ vs
  | none => none
noncomputable def getT (n : Str) : T → Option T
  | .inst c ns ts => match memS n c.flds with
    | true => lkN n ns ts
    | false => none
  | _ => none
noncomputable def getA (n : Str) (σ : Sg) : AV → Option AV
  | .t x => (getT n x).map .t
  | .own i => match σ[i]? with
    | some (.inst c ns vs) => match memS n c.flds with
      | true => lkN n ns vs
      | false => none
    | some (.frz x) => (getT n x).map .t
    | _ => none
/-- no field of an object is so called -/
noncomputable def noFld (n : Str) (σ : Sg) : AV → Bool
  | .t (.inst _ ns _) => !memS n ns
  | .own i => match σ[i]? with
    | some (.inst _ ns _) => !memS n ns
    | some (.frz (.inst _ ns _)) => !memS n ns
    | _ => false
  | _ => false
/-- an item, a key's value -/
noncomputable def itemT (o i : T) : Option T := match o, i with
  | .list ts, .int n => if decide (0 ≤ n) && decide (n < 100000) then ts[n.toNat]? else none
  | .tup ts, .int n => if decide (0 ≤ n) && decide (n < 100000) then ts[n.toNat]? else none
  | .dict ks ts, i => match keyOf i with
    | some k => match lkD k ks ts with
      | some r => r
      | none => none
    | none => none
  | _, _ => none
noncomputable def andsB (σ : Sg) : List Expr → Option (Bool × Sg)
  | [] => some (true, σ)
  | e :: r => match R.b cx Γ σ e with
    | some (true, σ) => andsB σ r
    | some (false, σ) => some (false, σ)
    | none => none
noncomputable def orsB (σ : Sg) : List Expr → Option (Bool × Sg)
  | [] => some (false, σ)
  | e :: r => match R.b cx Γ σ e with
    | some (true, σ) => some (true, σ)
    | some (false, σ) => orsB σ r
    | none => none
/-- and, or with a value -/
noncomputable def boolV (op : BoolOp) (σ : Sg) : List Expr → Option (AV × Sg)
  | [] => none
  | [e] => R.e cx Γ σ e
  | e :: r => match R.e cx Γ σ e with
    | some (v, σ) => match (look σ v).bind truthyT, op with
      | some true, .And => boolV op σ r
      | some false, .And => some (v, σ)
      | some true, .Or => some (v, σ)
      | some false, .Or => boolV op σ r
      | none, _ => none
    | none => none
/-- a comparison of two, or a chain of three -/
noncomputable def cmpB (σ : Sg) (l : Expr) (ops : List CmpOp) (cs : List Expr) : Option (Bool × Sg) := match R.e cx Γ σ l with
  | some (a, σ) => match ops, cs with
    | [op], [c] => match notSet c with
      | true => match R.e cx Γ σ c with
        | some (b, σ) => (cmpA op σ a b).map fun r => (r, σ)
        | none => none
      | false => none
    | [op, op2], [c, c2] => match notSet c2 with
      | true => match R.e cx Γ σ c with
        | some (b, σ) => match cmpA op σ a b with
          | some false => some (false, σ)
          | some true => match R.e cx Γ σ c2 with
            | some (d, σ) => (cmpA op2 σ b d).map fun r => (r, σ)
            | none => none
          | none => none
        | none => none
      | false => none
    | _, _ => none
  | none => none
end
/-- a name of the frame's own is bound -/
noncomputable def bindN (cx : Cx) (x : Str) (v : AV) (Γ : Ga) : Option Ga := match lkS x cx.names with
  | some .local | some .cell => some (putS x v Γ)
  | _ => none
/-- several names, one by one -/
noncomputable def bindNs (cx : Cx) : List Expr → List T → Ga → Option Ga
  | [], [], Γ => some Γ
  | .Name x _ :: es, t :: ts, Γ => match bindN cx x (.t t) Γ with
    | some Γ => bindNs cx es ts Γ
    | none => none
  | _, _, _ => none
/-- the names that a target binds -/
noncomputable def bindT (cx : Cx) (tg : Expr) (v : T) (Γ : Ga) : Option Ga := match tg with
  | .Name x _ => bindN cx x (.t v) Γ
  | .Tuple es _ _ => match v with
    | .tup ts => bindNs cx es ts Γ
    | _ => none
  | _ => none
/-- a name forgotten -/
noncomputable def dropS {α : Type} (x : Str) : List (Str × α) → List (Str × α)
  | [] => []
  | (y, v) :: r => match sEq x y with
    | true => dropS x r
    | false => (y, v) :: dropS x r
noncomputable def dropEs : List Expr → Ga → Ga
  | .Name x _ :: es, Γ => dropEs es (dropS x Γ)
  | _, Γ => Γ
/-- a loop's own names forgotten behind it -/
noncomputable def dropT : Expr → Ga → Ga
  | .Name x _, Γ => dropS x Γ
  | .Tuple es _ _, Γ => dropEs es Γ
  | _, Γ => Γ
noncomputable def isLocal : Option NameKind → Bool
  | some .local => true
  | _ => false
noncomputable def isCell : Option NameKind → Bool
  | some .cell | some .free => true
  | _ => false
/-- a comprehension's names: each its own, or a global's, or a cell's around -/
noncomputable def scOk (cx : Cx) (names : List (Str × NameKind)) : List (Str × NameKind) → Bool
  | [] => true
  | (x, k) :: r => (match k with
    | .local => isLocal (lkS x names)
    | .free => isCell (lkS x cx.names)
    | .cell => false
    | _ => true) && scOk cx names r
noncomputable def isFun : ScopeKind → Bool
  | .function => true
  | _ => false

/-- what a comprehension sees of the names around it -/
noncomputable def freeOf (names : List (Str × NameKind)) : Ga → Ga
  | [] => []
  | (x, v) :: r => match lkS x names with
    | some .free => (x, v) :: freeOf names r
    | _ => freeOf names r
/-- a comprehension's turns: the source's items; the list so far is built behind -/
noncomputable def compL (R : Rec) (cx : Cx) (tg elt : Expr) (ifs : List Expr) (Γ : Ga) (σ : Sg) : List T → Option (List T × Sg)
  | [] => some ([], σ)
  | v :: r => match bindT cx tg v Γ with
    | some Γ' => match andsB R cx Γ' σ ifs with
      | some (true, σ) => match R.e cx Γ' σ elt with
        | some (a, σ) => match frz σ a with
          | some (t, σ) => match compL R cx tg elt ifs Γ' σ r with
            | some (ts, σ) => some (t :: ts, σ)
            | none => none
          | none => none
        | none => none
      | some (false, σ) => compL R cx tg elt ifs Γ' σ r
      | none => none
    | none => none

/-- the kind of a built-in's object -/
inductive MK where
  | list | dict | str | bytes
  deriving DecidableEq
noncomputable def mkT : T → Option MK
  | .list _ => some .list
  | .dict .. => some .dict
  | .str _ => some .str
  | .bytes _ => some .bytes
  | _ => none
noncomputable def mkOf (σ : Sg) : AV → Option MK
  | .t x => mkT x
  | .own i => match σ[i]? with
    | some (.list _) => some .list
    | some (.dict ..) => some .dict
    | some (.frz t) => mkT t
    | _ => none
/-- the kind has the method -/
noncomputable def mkOk (n : Str) : Option MK → Bool
  | some .list => sEq n "append" || sEq n "extend" || sEq n "pop"
  | some .dict => sEq n "get"
  | some .str => sEq n "join"
  | some .bytes => sEq n "startswith"
  | none => false
noncomputable def appendM (σ : Sg) (o : AV) (args : List AV) : Option (AV × Sg) := match o, args with
    | .own i, [v] => match frz σ v with
      | some (t, σ) => match σ[i]? with
        | some (.list ts) => if sizeOk ts.length then some (.t .none, σ.set i (.list (ts ++ [t]))) else none
        | _ => none
      | none => none
    | _, _ => none
noncomputable def extendM (σ : Sg) (o : AV) (args : List AV) : Option (AV × Sg) := match o, args with
    | .own i, [v] => match frz σ v with
      | some (.list us, σ) => match σ[i]? with
        | some (.list ts) => if sizeOk (ts.length + us.length) then some (.t .none, σ.set i (.list (ts ++ us))) else none
        | _ => none
      | _ => none
    | _, _ => none
noncomputable def popM (σ : Sg) (o : AV) (args : List AV) : Option (AV × Sg) := match o, args with
    | .own i, [] => match σ[i]? with
      | some (.list ts) => match ts.getLast? with
        | some t => if sizeOk ts.length then some (.t t, σ.set i (.list ts.dropLast)) else none
        | none => none
      | _ => none
    | _, _ => none
noncomputable def getM (σ : Sg) (o : AV) (args : List AV) : Option (AV × Sg) := match look σ o, args with
    | some (.dict ks ts), [.t k] => match keyOf k with
      | some k => match lkD k ks ts with
        | some r => some (.t (r.getD .none), σ)
        | none => none
      | none => none
    | some (.dict ks ts), [.t k, d] => match keyOf k with
      | some k => match lkD k ks ts with
        | some (some t) => some (.t t, σ)
        | some none => some (d, σ)
        | none => none
      | none => none
    | _, _ => none
noncomputable def joinM (σ : Sg) (o : AV) (args : List AV) : Option (AV × Sg) := match o, args with
    | .t (.str x), [v] => match look σ v with
      | some (.list ts) => match strsOf ts with
        | some l => if sizeOk l.length && l.all shortS && Nat.ble x.cps.toList.length 16 then some (.t (.str (joinS x l)), σ) else none
        | none => none
      | _ => none
    | _, _ => none
noncomputable def startswithM (σ : Sg) (o : AV) (args : List AV) : Option (AV × Sg) := match o, args with
    | .t (.bytes a), [.t (.bytes b)] => some (.t (.bool (isPrefixL (b.map (·.toNat)) (a.map (·.toNat)))), σ)
    | _, _ => none
/-- a method of a built-in's object, by its name -/
noncomputable def callM (σ : Sg) (o : AV) (n : Str) (args : List AV) : Option (AV × Sg) :=
  if sEq n "append" then appendM σ o args else if sEq n "extend" then extendM σ o args else if sEq n "pop" then popM σ o args else if sEq n "get" then getM σ o args else if sEq n "join" then joinM σ o args else if sEq n "startswith" then startswithM σ o args else none
/-- a def that changes nothing that it is handed -/
noncomputable def isPure : FN → Bool
  | .refInit | .nameInit | .stringInit | .lookupInit | .configInit | .fieldInit | .walkInit | .new_node | .own_widgets | .law_draw | .law => false
  | _ => true
/-- a call of trees: the answer's tree -/
noncomputable def callT (R : Rec) (f : FN) (ts : List T) : Option T := match R.c f (ts.map .t) [] with
  | some (v, σ) => match frz σ v with
    | some (t, _) => some t
    | none => none
  | none => none
noncomputable def fnV (R : Rec) (f : FN) (args : List AV) (σ : Sg) : Option (AV × Sg) := match isPure f with
  | true => match frzs σ args with
    | some (ts, σ) => match callT R f ts with
      | some t => some (.t t, σ)
      | none => none
    | none => none
  | false => R.c f args σ
noncomputable def clsV (R : Rec) (c : CN) (args : List AV) (σ : Sg) : Option (AV × Sg) := match c.init with
  | some f => match R.c f (.own σ.length :: args) (σ ++ [.inst c [] []]) with
    | some (v, σ') => match isNoneA v with
      | true => some (.own σ.length, σ')
      | false => none
    | none => none
  | none => none
noncomputable def ansV (a : Ans) (σ : Sg) : AV × Sg := match a with
  | .t r => (.t r, σ)
  | .new o => (.own σ.length, σ ++ [o])
noncomputable def lenV (args : List AV) (σ : Sg) : Option (AV × Sg) := match args with
  | [v] => match look σ v with
    | some t => (callBi .len [t]).map fun a => ansV a σ
    | none => none
  | _ => none
noncomputable def bisV (b : BI) (args : List AV) (σ : Sg) : Option (AV × Sg) := match frzs σ args with
  | some (ts, σ) => (callBi b ts).map fun a => ansV a σ
  | none => none
noncomputable def isLen : BI → Bool
  | .len => true
  | _ => false
/-- a call of a value with its arguments -/
noncomputable def callV (R : Rec) (f : T) (args : List AV) (σ : Sg) : Option (AV × Sg) := match f with
  | .fn f => fnV R f args σ
  | .cls c => clsV R c args σ
  | .bi b => match isLen b with
    | true => lenV args σ
    | false => bisV b args σ
  | _ => none

noncomputable def dictE (R : Rec) (cx : Cx) (Γ : Ga) (σ : Sg) : List (Option Expr) → List Expr → Option (List (Key × T) × Sg)
  | [], [] => some ([], σ)
  | some k :: ks, v :: vs => match R.e cx Γ σ k with
    | some (.t kt, σ) => match keyOf kt with
      | some key => match R.e cx Γ σ v with
        | some (a, σ) => match frz σ a with
          | some (t, σ) => match dictE R cx Γ σ ks vs with
            | some (l, σ) => some ((key, t) :: l, σ)
            | none => none
          | none => none
        | none => none
      | none => none
    | _ => none
  | _, _ => none

/-- what a for or a comprehension goes over, when it is a value -/
noncomputable def srcG (R : Rec) (cx : Cx) (Γ : Ga) (σ : Sg) (it : Expr) : Option (List T × Sg) := match R.e cx Γ σ it with
  | some (v, σ) => match frz σ v with
    | some (t, σ) => (itemsOf t).map fun l => (l, σ)
    | none => none
  | none => none
noncomputable def biOf : Option AV → Option BI
  | some (.t (.bi b)) => some b
  | _ => none
noncomputable def rangeL (l : List AV) : Option (List T) := match l with
  | [a] => match a with
    | .t (.int n) => if intOk n then some ((List.range n.toNat).map (fun (j : Nat) => T.int (j : Int))) else none
    | _ => none
  | [a, b] => match a with
    | .t (.int a) => match b with
      | .t (.int b) => if intOk a && intOk b then some ((List.range (b - a).toNat).map (fun (j : Nat) => T.int (a + (j : Int)))) else none
      | _ => none
    | _ => none
  | _ => none
noncomputable def revL (l : List AV) (σ : Sg) : Option (List T × Sg) := match l with
  | [v] => match frz σ v with
    | some (t, σ) => match t with
      | .list ts => if sizeOk ts.length then some (ts.reverse, σ) else none
      | _ => none
    | none => none
  | _ => none
/-- what a for or a comprehension goes over: range, reversed, or a value's items -/
noncomputable def srcN (R : Rec) (cx : Cx) (Γ : Ga) (σ : Sg) (x : Str) (p : Pos) (args : List Expr) (p' : Pos) : Option (List T × Sg) := match biOf (nameV cx Γ x) with
  | some .range => match evs R cx Γ σ args with
    | some (as, σ) => (rangeL as).map fun l => (l, σ)
    | none => none
  | some .reversed => match evs R cx Γ σ args with
    | some (as, σ) => revL as σ
    | none => none
  | _ => srcG R cx Γ σ (.Call (.Name x p) args [] p')
noncomputable def srcE (R : Rec) (cx : Cx) (Γ : Ga) (σ : Sg) (it : Expr) : Option (List T × Sg) := match it with
  | .Call f args kws p' => match f with
    | .Name x p => match kws with
      | [] => srcN R cx Γ σ x p args p'
      | k :: ks => srcG R cx Γ σ (.Call (.Name x p) args (k :: ks) p')
    | f => srcG R cx Γ σ (.Call f args kws p')
  | .Set .. => none
  | it => srcG R cx Γ σ it

/-- a comprehension's list -/
noncomputable def compE (R : Rec) (cx : Cx) (Γ : Ga) (σ : Sg) (elt tg it : Expr) (ifs : List Expr) (sc : Scope) : Option (List T × Sg) := match isFun sc.kind && scOk cx sc.names sc.names with
  | true => match srcE R cx Γ σ it with
    | some (vs, σ) => match Nat.ble vs.length 1000 with
      | true => compL R ⟨sc.names⟩ tg elt ifs (freeOf sc.names Γ) σ vs
      | false => none
    | none => none
  | false => none
/-- a value that is stored as any other -/
noncomputable def notSwap : Expr → Bool
  | .ListComp .. | .SetComp .. | .DictComp .. => false
  | _ => true

/-- a test that is a value -/
noncomputable def valTest : Expr → Bool
  | .Name .. | .Call .. | .Attribute .. | .Subscript .. => true
  | _ => false

section
variable (R : Rec)

noncomputable def binE (cx : Cx) (Γ : Ga) (σ : Sg) (l : Expr) (op : Operator) (r : Expr) : Option (AV × Sg) := match R.e cx Γ σ l with
  | some (a, σ) => match R.e cx Γ σ r with
    | some (b, σ) => match look σ a, look σ b with
      | some x, some y => (binA op x y).map fun t => (.t t, σ)
      | _, _ => none
    | none => none
  | none => none
noncomputable def ifE (cx : Cx) (Γ : Ga) (σ : Sg) (c a b : Expr) : Option (AV × Sg) := match R.b cx Γ σ c with
  | some (true, σ) => R.e cx Γ σ a
  | some (false, σ) => R.e cx Γ σ b
  | none => none
noncomputable def cmpE (cx : Cx) (Γ : Ga) (σ : Sg) (l : Expr) (ops : List CmpOp) (cs : List Expr) : Option (AV × Sg) := match ops with
  | [_] => (cmpB R cx Γ σ l ops cs).map fun (b, σ) => (.t (.bool b), σ)
  | _ => none
noncomputable def listE (cx : Cx) (Γ : Ga) (σ : Sg) (es : List Expr) : Option (AV × Sg) := match evsT R cx Γ σ es with
  | some (ts, σ) => if sizeOk ts.length then some (.own σ.length, σ ++ [.list ts]) else none
  | none => none
noncomputable def tupE (cx : Cx) (Γ : Ga) (σ : Sg) (es : List Expr) : Option (AV × Sg) := match evsT R cx Γ σ es with
  | some (ts, σ) => if sizeOk ts.length then some (.t (.tup ts), σ) else none
  | none => none
noncomputable def dctE (cx : Cx) (Γ : Ga) (σ : Sg) (ks : List (Option Expr)) (vs : List Expr) : Option (AV × Sg) := match Nat.ble ks.length 15 with
  | true => match dictE R cx Γ σ ks vs with
    | some (l, σ) => match dictOfPairs l ([], []) with
      | some (ks, ts) => some (.own σ.length, σ ++ [.dict ks ts])
      | none => none
    | none => none
  | false => none
noncomputable def attE (cx : Cx) (Γ : Ga) (σ : Sg) (o : Expr) (n : Str) : Option (AV × Sg) := match plainBase o with
  | true => match R.e cx Γ σ o with
    | some (v, σ) => (getA n σ v).map fun r => (r, σ)
    | none => none
  | false => none
noncomputable def sliE (cx : Cx) (Γ : Ga) (σ : Sg) (o u : Expr) : Option (AV × Sg) := match R.e cx Γ σ o with
  | some (v, σ) => match R.e cx Γ σ u with
    | some (.t (.int n), σ) => match look σ v with
      | some (.list ts) => if decide (0 ≤ n) && decide (n < 100000) && sizeOk ts.length then some (.own σ.length, σ ++ [.list (ts.take n.toNat)]) else none
      | _ => none
    | _ => none
  | none => none
noncomputable def sbsE (cx : Cx) (Γ : Ga) (σ : Sg) (o i : Expr) : Option (AV × Sg) := match notSlice i with
  | true => match R.e cx Γ σ o with
    | some (v, σ) => match R.e cx Γ σ i with
      | some (.t k, σ) => match look σ v with
        | some t => (itemT t k).map fun r => (.t r, σ)
        | none => none
      | _ => none
    | none => none
  | false => none
noncomputable def lcE (cx : Cx) (Γ : Ga) (σ : Sg) (elt tg it : Expr) (ifs : List Expr) (sc : Scope) : Option (AV × Sg) := match compE R cx Γ σ elt tg it ifs sc with
  | some (ts, σ) => some (.own σ.length, σ ++ [.list ts])
  | none => none
noncomputable def mthE (cx : Cx) (Γ : Ga) (σ : Sg) (o : Expr) (n : Str) (ap : Pos) (args : List Expr) (p : Pos) : Option (AV × Sg) := match plainBase o && Nat.beq ap.endLine p.line && Nat.blt args.length 25 with
  | true => match R.e cx Γ σ o with
    | some (v, σ) => match clsOf σ v with
      | some c => match meth c n, noFld n σ v with
        | some f, true => match evs R cx Γ σ args with
          | some (as, σ) => callV R (.fn f) (v :: as) σ
          | none => none
        | _, _ => none
      | none => match mkOk n (mkOf σ v) with
        | true => match evs R cx Γ σ args with
          | some (as, σ) => callM σ v n as
          | none => none
        | false => none
    | none => none
  | false => none
noncomputable def calE (cx : Cx) (Γ : Ga) (σ : Sg) (x : Str) (args : List Expr) : Option (AV × Sg) := match nameV cx Γ x with
  | some (.t f) => match evs R cx Γ σ args with
    | some (as, σ) => callV R f as σ
    | none => none
  | _ => none
/-- a comprehension's one source -/
noncomputable def oneGen : List Comprehension → Option (Expr × Expr × List Expr)
  | [g] => if g.is_async = 0 then some (g.target, g.iter, g.ifs) else none
  | _ => none
noncomputable def negE (σ : Sg) (op : UnaryOp) (e : Expr) : Option (AV × Sg) := match op with
  | .USub => match e with
    | .Constant c _ _ => match c with
      | .int n => if intOk n then some (.t (.int (-n)), σ) else none
      | _ => none
    | _ => none
  | _ => none
noncomputable def uptoOf (lo u st : Option Expr) : Option Expr := match lo with
  | none => match st with
    | none => u
    | some _ => none
  | some _ => none
noncomputable def subE (cx : Cx) (Γ : Ga) (σ : Sg) (o i : Expr) : Option (AV × Sg) := match i with
  | .Slice lo u st _ => match uptoOf lo u st with
    | some u => sliE R cx Γ σ o u
    | none => none
  | i => sbsE R cx Γ σ o i
noncomputable def lcmE (cx : Cx) (Γ : Ga) (σ : Sg) (elt : Expr) (gs : List Comprehension) (sc : Scope) : Option (AV × Sg) := match oneGen gs with
  | some (tg, it, ifs) => lcE R cx Γ σ elt tg it ifs sc
  | none => none
noncomputable def cllE (cx : Cx) (Γ : Ga) (σ : Sg) (f : Expr) (args : List Expr) (kws : List Keyword) (p : Pos) : Option (AV × Sg) := match kws with
  | [] => match f with
    | .Attribute o n ap => mthE R cx Γ σ o n ap args p
    | .Name x _ => calE R cx Γ σ x args
    | _ => none
  | _ :: _ => none
noncomputable def stepE (cx : Cx) (Γ : Ga) (σ : Sg) (e : Expr) : Option (AV × Sg) := match e with
  | .Constant c _ _ => (constT c).map fun t => (.t t, σ)
  | .Name x _ => (nameV cx Γ x).map fun v => (v, σ)
  | .UnaryOp op e _ => negE σ op e
  | .BoolOp op es _ => boolV R cx Γ op σ es
  | .BinOp l op r _ => binE R cx Γ σ l op r
  | .IfExp c a b _ => ifE R cx Γ σ c a b
  | .Compare l ops cs _ => cmpE R cx Γ σ l ops cs
  | .List es _ => listE R cx Γ σ es
  | .Tuple es _ _ => tupE R cx Γ σ es
  | .Dict ks vs _ => dctE R cx Γ σ ks vs
  | .Attribute o n _ => attE R cx Γ σ o n
  | .Subscript o i _ => subE R cx Γ σ o i
  | .ListComp elt gs sc _ => lcmE R cx Γ σ elt gs sc
  | .Call f args kws p => cllE R cx Γ σ f args kws p
  | _ => none

noncomputable def valB (cx : Cx) (Γ : Ga) (σ : Sg) (e : Expr) : Option (Bool × Sg) := match valTest e with
  | true => match R.e cx Γ σ e with
    | some (v, σ) => ((look σ v).bind truthyT).map fun b => (b, σ)
    | none => none
  | false => none
noncomputable def notB (cx : Cx) (Γ : Ga) (σ : Sg) (op : UnaryOp) (e : Expr) : Option (Bool × Sg) := match op with
  | .Not => match R.b cx Γ σ e with
    | some (b, σ) => some (!b, σ)
    | none => none
  | _ => none
noncomputable def stepB (cx : Cx) (Γ : Ga) (σ : Sg) (e : Expr) : Option (Bool × Sg) := match e with
  | .UnaryOp op e _ => notB R cx Γ σ op e
  | .BoolOp op es _ => match op with
    | .And => andsB R cx Γ σ es
    | .Or => orsB R cx Γ σ es
  | .Compare l ops cs _ => cmpB R cx Γ σ l ops cs
  | e => valB R cx Γ σ e

/-- a for's turns -/
noncomputable def forL (cx : Cx) (tg : Expr) (body : List Stmt) (Γ : Ga) (σ : Sg) : List T → Option (Fl × Ga × Sg)
  | [] => some (.next, dropT tg Γ, σ)
  | v :: r => match bindT cx tg v Γ with
    | some Γ => match R.x cx Γ σ body with
      | some (.next, Γ, σ) => forL cx tg body Γ σ r
      | some (.ret v, Γ, σ) => some (.ret v, Γ, σ)
      | none => none
    | none => none

/-- a while's turns -/
noncomputable def whileL (cx : Cx) (c : Expr) (body : List Stmt) : Nat → Ga → Sg → Option (Fl × Ga × Sg)
  | 0, _, _ => none
  | k + 1, Γ, σ => match R.b cx Γ σ c with
    | some (false, σ) => some (.next, Γ, σ)
    | some (true, σ) => match R.x cx Γ σ body with
      | some (.next, Γ, σ) => whileL cx c body k Γ σ
      | some (.ret v, Γ, σ) => some (.ret v, Γ, σ)
      | none => none
    | none => none
noncomputable def exprS (cx : Cx) (Γ : Ga) (σ : Sg) (f : Expr) (as : List Expr) (p : Pos) : Option (Fl × Ga × Sg) := match R.e cx Γ σ (.Call f as [] p) with
  | some (.t .none, σ) => some (.next, Γ, σ)
  | _ => none
noncomputable def retS (cx : Cx) (Γ : Ga) (σ : Sg) (e : Expr) : Option (Fl × Ga × Sg) := match R.e cx Γ σ e with
  | some (v, σ) => some (.ret v, Γ, σ)
  | none => none
noncomputable def asgCS (cx : Cx) (Γ : Ga) (σ : Sg) (x : Str) (elt tg it : Expr) (ifs : List Expr) (sc : Scope) : Option (Fl × Ga × Sg) := match compE R cx Γ σ elt tg it ifs sc with
  | some (ts, σ) => match bindN cx x (.own σ.length) Γ with
    | some Γ => some (.next, Γ, σ ++ [.list ts])
    | none => none
  | none => none
noncomputable def asgS (cx : Cx) (Γ : Ga) (σ : Sg) (x : Str) (e : Expr) : Option (Fl × Ga × Sg) := match notSwap e with
  | true => match R.e cx Γ σ e with
    | some (v, σ) => match bindN cx x v Γ with
      | some Γ => some (.next, Γ, σ)
      | none => none
    | none => none
  | false => none
noncomputable def asgUS (cx : Cx) (Γ : Ga) (σ : Sg) (x y z : Str) : Option (Fl × Ga × Sg) := match nameV cx Γ z with
  | some (.own i) => match σ[i]? with
    | some (.list [a, b]) => match bindN cx x (.t a) Γ with
      | some Γ => match bindN cx y (.t b) Γ with
        | some Γ => some (.next, Γ, σ)
        | none => none
      | none => none
    | _ => none
  | _ => none
noncomputable def asgTS (cx : Cx) (Γ : Ga) (σ : Sg) (es : List Expr) (k : Nat) (p : Pos) (f : Expr) (as : List Expr) (p' : Pos) : Option (Fl × Ga × Sg) := match R.e cx Γ σ (.Call f as [] p') with
  | some (.t v, σ) => match bindT cx (.Tuple es k p) v Γ with
    | some Γ => some (.next, Γ, σ)
    | none => none
  | _ => none
noncomputable def asgAS (cx : Cx) (Γ : Ga) (σ : Sg) (o : Expr) (n : Str) (e : Expr) : Option (Fl × Ga × Sg) := match R.e cx Γ σ e with
  | some (v, σ) => match R.e cx Γ σ o with
    | some (.own i, σ) => match σ[i]? with
      | some (.inst c ns vs) => match memS n c.flds && sizeOk ns.length with
        | true => match putN n v ns vs with
          | (ns, vs) => some (.next, Γ, σ.set i (.inst c ns vs))
        | false => none
      | _ => none
    | _ => none
  | none => none
noncomputable def asgBS (cx : Cx) (Γ : Ga) (σ : Sg) (o k e : Expr) : Option (Fl × Ga × Sg) := match R.e cx Γ σ e with
  | some (v, σ) => match R.e cx Γ σ o with
    | some (.own i, σ) => match R.e cx Γ σ k with
      | some (.t k, σ) => match keyOf k, frz σ v with
        | some k, some (t, σ) => match σ[i]? with
          | some (.dict ks ts) => match putD k t ks ts with
            | some (ks, ts) => some (.next, Γ, σ.set i (.dict ks ts))
            | none => none
          | some (.list ts) => match k with
            | .i n => if decide (0 ≤ n) && decide (n < ts.length) && sizeOk ts.length then some (.next, Γ, σ.set i (.list (ts.set n.toNat t))) else none
            | _ => none
          | _ => none
        | _, _ => none
      | _ => none
    | _ => none
  | none => none
noncomputable def ifS (cx : Cx) (Γ : Ga) (σ : Sg) (c : Expr) (a b : List Stmt) : Option (Fl × Ga × Sg) := match R.b cx Γ σ c with
  | some (true, σ) => R.x cx Γ σ a
  | some (false, σ) => R.x cx Γ σ b
  | none => none
noncomputable def forS (cx : Cx) (Γ : Ga) (σ : Sg) (tg it : Expr) (body : List Stmt) : Option (Fl × Ga × Sg) := match srcE R cx Γ σ it with
  | some (vs, σ) => forL R cx tg body Γ σ vs
  | none => none
/-- the two names of a pair -/
noncomputable def twoN (es : List Expr) : Option (Str × Str) := match es with
  | [a, b] => match a with
    | .Name x _ => match b with
      | .Name y _ => some (x, y)
      | _ => none
    | _ => none
  | _ => none
noncomputable def asgN (cx : Cx) (Γ : Ga) (σ : Sg) (x : Str) (e : Expr) : Option (Fl × Ga × Sg) := match e with
  | .ListComp elt gs sc _ => match oneGen gs with
    | some (tg, it, ifs) => asgCS R cx Γ σ x elt tg it ifs sc
    | none => none
  | e => asgS R cx Γ σ x e
noncomputable def asgT (cx : Cx) (Γ : Ga) (σ : Sg) (es : List Expr) (k : Nat) (p : Pos) (e : Expr) : Option (Fl × Ga × Sg) := match e with
  | .Name z _ => match twoN es with
    | some (x, y) => asgUS cx Γ σ x y z
    | none => none
  | .Call f as kws p' => match kws with
    | [] => asgTS R cx Γ σ es k p f as p'
    | _ :: _ => none
  | _ => none
noncomputable def asgX (cx : Cx) (Γ : Ga) (σ : Sg) (t e : Expr) : Option (Fl × Ga × Sg) := match t with
  | .Name x _ => asgN R cx Γ σ x e
  | .Tuple es k p => asgT R cx Γ σ es k p e
  | .Attribute o n _ => asgAS R cx Γ σ o n e
  | .Subscript o k _ => asgBS R cx Γ σ o k e
  | _ => none
noncomputable def asgL (cx : Cx) (Γ : Ga) (σ : Sg) (ts : List Expr) (e : Expr) : Option (Fl × Ga × Sg) := match ts with
  | [t] => asgX R cx Γ σ t e
  | _ => none
noncomputable def expS (cx : Cx) (Γ : Ga) (σ : Sg) (e : Expr) : Option (Fl × Ga × Sg) := match e with
  | .Call f as kws p => match kws with
    | [] => exprS R cx Γ σ f as p
    | _ :: _ => none
  | _ => none
noncomputable def tryS (cx : Cx) (Γ : Ga) (σ : Sg) (body : List Stmt) (hs : List ExceptHandler) (els fin : List Stmt) : Option (Fl × Ga × Sg) := match hs with
  | [] => none
  | _ :: _ => match els with
    | [] => match fin with
      | [] => R.x cx Γ σ body
      | _ :: _ => none
    | _ :: _ => none
noncomputable def stepS (cx : Cx) (Γ : Ga) (σ : Sg) (s : Stmt) : Option (Fl × Ga × Sg) := match s with
  | .Expr e _ => expS R cx Γ σ e
  | .Return e _ => match e with
    | some e => retS R cx Γ σ e
    | none => none
  | .Assign ts e _ => asgL R cx Γ σ ts e
  | .If c a b _ => ifS R cx Γ σ c a b
  | .For tg it body els _ => match els with
    | [] => forS R cx Γ σ tg it body
    | _ :: _ => none
  | .While c body els _ => match els with
    | [] => whileL R cx c body 20 Γ σ
    | _ :: _ => none
  | .Try body hs els fin _ => tryS R cx Γ σ body hs els fin
  | _ => none

noncomputable def stepX (cx : Cx) (Γ : Ga) (σ : Sg) : List Stmt → Option (Fl × Ga × Sg)
  | [] => some (.next, Γ, σ)
  | s :: r => match stepS R cx Γ σ s with
    | some (.next, Γ, σ) => stepX cx Γ σ r
    | some (.ret v, Γ, σ) => some (.ret v, Γ, σ)
    | none => none

noncomputable def zipA : List Str → List AV → List (Str × AV)
  | x :: xs, v :: vs => (x, v) :: zipA xs vs
  | _, _ => []
noncomputable def stepC (f : FN) (args : List AV) (σ : Sg) : Option (AV × Sg) :=
  let ps := f.params
  let n := args.length
  let d := f.dflts
  if Nat.ble n ps.length && Nat.ble ps.length (n + d.length) then
    let full := args ++ (d.drop (n + d.length - ps.length)).map .t
    match stepX R ⟨f.names⟩ (zipA ps full) σ f.body with
    | some (.ret v, _, σ) => some (v, σ)
    | some (.next, _, σ) => some (.t .none, σ)
    | none => none
  else none

noncomputable def stepR : Rec := ⟨stepE R, stepB R, stepX R, stepC R⟩
end

noncomputable def run : Nat → Rec
  | 0 => Rec.none
  | n + 1 => stepR (run n)

end Mine
end
section
set_option maxRecDepth 100000
set_option autoImplicit false
namespace Mine
open PySem PySem.W PyProof.Rows

set_option tactic.hygienic false in
theorem nn {α : Type _} {x : α} {P : Prop} (e : none = some x) : P := by cases e
theorem nf {P : Prop} (e : false = true) : P := Bool.noConfusion e
set_option tactic.hygienic false in
theorem if_inv {α : Type} {c : Bool} {x y : α} (e : (if c then some x else none) = some y) : c = true ∧ x = y := by
  cases c with
  | true => cases e; exact ⟨rfl, rfl⟩
  | false => first | exact nn e | exact nf e | first | exact nn e | exact nf e | cases e
theorem codeAny_gen {M : Model} {A : Around} {c : Code} {R₀ : Result → Shared → Prop} {s : Shared} (h : ∀ RR : Result → Shared → Prop, (∀ r s', R₀ r s' → RR r s') → codeAny M A c RR s) : codeAny M A c R₀ s := h R₀ fun _ _ x => x
theorem wpAny_gen {α : Type} {M : Model} {A : Around} {m : Sem α} {Q₀ : α → Shared → Prop} {E : Value → Shared → Prop} {s : Shared} (h : ∀ Q : α → Shared → Prop, (∀ r s', Q₀ r s' → Q r s') → wpAny M A m Q E s) : wpAny M A m Q₀ E s := h Q₀ fun _ _ x => x
theorem pgen {P₀ : Prop} (h : ∀ P : Prop, (P₀ → P) → P) : P₀ := h P₀ fun x => x

theorem dictE_one (R : Rec) (cx : Cx) (Γ : Ga) (σ : Sg) (k v : Expr) (ks : List (Option Expr)) (vs : List Expr) : dictE R cx Γ σ (some k :: ks) (v :: vs) = (match R.e cx Γ σ k with
    | some (.t kt, σ) => match keyOf kt with
      | some key => match R.e cx Γ σ v with
        | some (a, σ) => match frz σ a with
          | some (t, σ) => match dictE R cx Γ σ ks vs with
            | some (l, σ) => some ((key, t) :: l, σ)
            | none => none
          | none => none
        | none => none
      | none => none
    | _ => none) := rfl
theorem lkK_cons {α : Type} (k q : Key) (v : α) (ks : List Key) (vs : List α) : lkK k (q :: ks) (v :: vs) = (match k.eq q with | true => some v | false => lkK k ks vs) := rfl
theorem putK_cons {α : Type} (k q : Key) (v u : α) (ks : List Key) (vs : List α) : putK k v (q :: ks) (u :: vs) = (match k.eq q with | true => (q :: ks, v :: vs) | false => match putK k v ks vs with | (ks', vs') => (q :: ks', u :: vs')) := rfl
theorem lkN_cons {α : Type} (k q : Str) (v : α) (ks : List Str) (vs : List α) : lkN k (q :: ks) (v :: vs) = (match sEq k q with | true => some v | false => lkN k ks vs) := rfl
theorem putN_cons {α : Type} (k q : Str) (v u : α) (ks : List Str) (vs : List α) : Mine.putN k v (q :: ks) (u :: vs) = (match sEq k q with | true => (q :: ks, v :: vs) | false => match Mine.putN k v ks vs with | (ks', vs') => (q :: ks', u :: vs')) := rfl
theorem keq_i (a b : Int) : Key.eq (.i a) (.i b) = decide (a = b) := rfl
theorem keq_s (a b : Str) : Key.eq (.s a) (.s b) = sEq a b := rfl
theorem nEq_iff : ∀ a b : List Nat, nEq a b = true ↔ a = b
  | [], [] => ⟨fun _ => rfl, fun _ => rfl⟩
  | [], _ :: _ => ⟨nf, fun e => absurd e.symm (List.cons_ne_nil _ _)⟩
  | _ :: _, [] => ⟨nf, fun e => absurd e (List.cons_ne_nil _ _)⟩
  | a :: x, b :: y => by
    show (match Nat.beq a b with | true => nEq x y | false => false) = true ↔ _
    cases h : Nat.beq a b with
    | true => simp only [nEq_iff x y, List.cons.injEq, Nat.eq_of_beq_eq_true h, true_and]
    | false => simp only [Bool.false_eq_true, List.cons.injEq, false_iff, not_and]; intro e; exact absurd e (Nat.ne_of_beq_eq_false h)
set_option tactic.hygienic false in
theorem sEq_iff (a b : Str) : sEq a b = true ↔ a = b := by
  unfold sEq
  constructor
  · intro e
    split at e
    · rw [nEq_iff] at e; cases a; cases b; simp only at e; congr 1; exact Array.ext' e
    · first | exact nn e | exact nf e | first | exact nn e | exact nf e | cases e
  · intro e
    subst e
    have : Nat.beq (code a) (code a) = true := Nat.beq_refl _
    rw [this]
    exact (nEq_iff _ _).mpr rfl
set_option tactic.hygienic false in
theorem sEq_beq (a b : Str) : sEq a b = (a == b) := by
  cases h : sEq a b with
  | true => rw [(sEq_iff a b).mp h]; simp
  | false =>
    have : a ≠ b := fun e => by rw [(sEq_iff a b).mpr e] at h; first | exact nn h | exact nf h | first | exact nn h | exact nf h | cases h
    simp [this]
theorem sEq_false {a b : Str} (h : sEq a b = false) : a ≠ b := fun e => by rw [(sEq_iff a b).mpr e] at h; first | exact nn h | exact nf h | first | exact nn h | exact nf h | cases h
theorem sEq_refl (a : Str) : sEq a a = true := (sEq_iff a a).mpr rfl
theorem lkS_eq {α : Type} (x : Str) : ∀ l : List (Str × α), lkS x l = l.lookup x
  | [] => rfl
  | (y, v) :: r => by
    unfold lkS
    rw [List.lookup_cons, sEq_beq]
    cases x == y with
    | true => rfl
    | false => exact lkS_eq x r
set_option tactic.hygienic false in
theorem lkS_put {α : Type} (x : Str) (v : α) (y : Str) : ∀ l : List (Str × α), lkS y (putS x v l) = if y = x then some v else lkS y l
  | [] => by
    unfold putS lkS
    by_cases h : y = x
    · subst h; rw [sEq_refl]; simp
    · rw [if_neg h]; cases q : sEq y x with
      | true => exact absurd ((sEq_iff _ _).mp q) h
      | false => rfl
  | (z, u) :: r => by
    unfold putS
    cases q : sEq x z with
    | true =>
      have e := (sEq_iff _ _).mp q; subst e
      by_cases h : y = x
      · subst h; simp [lkS, sEq_refl]
      · have : sEq y x = false := by cases q2 : sEq y x with | true => exact absurd ((sEq_iff _ _).mp q2) h | false => rfl
        simp [lkS, this, h]
    | false =>
      show lkS y ((z, u) :: putS x v r) = _
      by_cases h : y = x
      · subst h; simp only [lkS, q]; rw [lkS_put, if_pos rfl]; simp
      · rw [if_neg h]
        simp only [lkS]
        cases sEq y z with
        | true => rfl
        | false => rw [lkS_put, if_neg h]
theorem memS_iff (x : Str) : ∀ l : List Str, memS x l = true ↔ x ∈ l
  | [] => by simp [memS]
  | y :: r => by
    unfold memS
    cases h : sEq x y with
    | true => simp [(sEq_iff _ _).mp h]
    | false => simp only [memS_iff x r, List.mem_cons]; exact ⟨.inr, fun e => e.resolve_left (sEq_false h)⟩

/-- the world below the call: the written part, where the defs and classes lie, the heap as the call found it -/
structure Base where
  prog : Program
  w : World
  K : Frag
  fa : FN → Addr
  ca : CN → Addr
  h0 : Heap

noncomputable def biV : BI → Value
  | .len => .builtin "len"
  | .str => .type "str"
  | .list => .type "list"
  | .tuple => .type "tuple"
  | .dict => .type "dict"
  | .sorted => .builtin "sorted"
  | .reversed => .type "reversed"
  | .range => .type "range"
  | .isinstance => .builtin "isinstance"
  | .chr => .builtin "chr"
  | .bytes => .type "bytes"
  | .bool => .type "bool"
  | .int => .type "int"

noncomputable def DictIs (B : Base) (h : Heap) (a : Addr) (ks : List Key) (vs : List Value) : Prop := (a == sysModules) = false ∧ (
  (∃ kvs : List (Int × Value), h.DictOf (intKind B.prog B.w) a kvs ∧ ks = kvs.map (fun p => Key.i p.1) ∧ vs = kvs.map (·.2)) ∨
  (∃ kvs : List (Str × Value), h.DictOf (strKind B.prog B.w) a kvs ∧ ks = kvs.map (fun p => Key.s p.1) ∧ vs = kvs.map (·.2)))
noncomputable def PlainTup (h : Heap) (a : Addr) (items : Array Value) : Prop := ∃ n, h.get? a = some { cls := .type "tuple", data := .seq items n }
theorem PlainTup.isTup {h : Heap} {a : Addr} {items : Array Value} (x : PlainTup h a items) : IsTup h a items := let ⟨n, e⟩ := x; ⟨_, e, rfl, n, rfl⟩
noncomputable def FieldsAre : List Str → List Value → List DictEntry → Prop
  | [], [], [] => True
  | n :: ns, v :: vs, e :: es => (∃ k, e.key = .str n k) ∧ e.val = v ∧ FieldsAre ns vs es
  | _, _, _ => False
noncomputable def InstIs (h : Heap) (C x d : Addr) (ns : List Str) (vs : List Value) : Prop :=
  h.get? x = some (instObj C d) ∧ ∃ es n, h.get? d = some (dictOf es n) ∧ FieldsAre ns vs es

mutual
noncomputable def Rep (B : Base) (Z : Addr → Prop) (h : Heap) : T → Value → Prop
  | .none, v => v = .none
  | .bool b, v => v = .bool b
  | .int n, v => ∃ k, v = .int n k
  | .str x, v => ∃ k, v = .str x k
  | .bytes b, v => ∃ k, v = .bytes b.toArray k
  | .fn f, v => v = .ref (B.fa f)
  | .cls c, v => v = .ref (B.ca c)
  | .bi b, v => v = biV b
  | .list ts, v => ∃ a vs, v = .ref a ∧ Z a ∧ h.PlainList a (List.toArray vs) ∧ RepL B Z h ts vs
  | .tup ts, v => ∃ a vs, v = .ref a ∧ Z a ∧ PlainTup h a (List.toArray vs) ∧ RepL B Z h ts vs
  | .dict ks ts, v => ∃ a vs, v = .ref a ∧ Z a ∧ DictIs B h a ks vs ∧ RepL B Z h ts vs
  | .inst c ns ts, v => ∃ x d vs, v = .ref x ∧ Z x ∧ Z d ∧ InstIs h (B.ca c) x d ns vs ∧ RepL B Z h ts vs
noncomputable def RepL (B : Base) (Z : Addr → Prop) (h : Heap) : List T → List Value → Prop
  | [], vs => vs = []
  | t :: ts, vs => ∃ v r, vs = v :: r ∧ Rep B Z h t v ∧ RepL B Z h ts r
end

set_option tactic.hygienic false in
theorem DictIs.keep {B : Base} {h h' : Heap} {a : Addr} {ks : List Key} {vs : List Value} (x : DictIs B h a ks vs) (k : ∀ o, h.get? a = some o → h'.get? a = some o) : DictIs B h' a ks vs := by
  obtain ⟨m, x⟩ := x
  rcases x with ⟨kvs, ⟨o, es, ep, ho, r⟩, e⟩ | ⟨kvs, ⟨o, es, ep, ho, r⟩, e⟩
  · exact ⟨m, .inl ⟨kvs, ⟨o, es, ep, k o ho, r⟩, e⟩⟩
  · exact ⟨m, .inr ⟨kvs, ⟨o, es, ep, k o ho, r⟩, e⟩⟩
theorem InstIs.keep {h h' : Heap} {C x d : Addr} {ns : List Str} {vs : List Value} (y : InstIs h C x d ns vs) (k : ∀ o, h.get? x = some o → h'.get? x = some o) (k2 : ∀ o, h.get? d = some o → h'.get? d = some o) : InstIs h' C x d ns vs :=
  ⟨k _ y.1, let ⟨es, n, a, b⟩ := y.2; ⟨es, n, k2 _ a, b⟩⟩

section
variable {B : Base} {Z Z' : Addr → Prop} {h h' : Heap}
mutual
theorem Rep.mono (zm : ∀ a, Z a → Z' a) (zk : ∀ a o, Z a → h.get? a = some o → h'.get? a = some o) : ∀ (t : T) (v : Value), Rep B Z h t v → Rep B Z' h' t v
  | .none, _, x | .bool _, _, x | .int _, _, x | .str _, _, x | .bytes _, _, x | .fn _, _, x | .cls _, _, x | .bi _, _, x => x
  | .list ts, _, xx => by obtain ⟨a, vs, e, z, hl, r⟩ := xx; exact ⟨a, vs, e, zm a z, hl.at fun o q => zk a o z q, RepL.mono zm zk ts vs r⟩
  | .tup ts, _, xx => by obtain ⟨a, vs, e, z, ⟨n, q⟩, r⟩ := xx; exact ⟨a, vs, e, zm a z, ⟨n, zk a _ z q⟩, RepL.mono zm zk ts vs r⟩
  | .dict ks ts, _, xx => by obtain ⟨a, vs, e, z, hl, r⟩ := xx; exact ⟨a, vs, e, zm a z, hl.keep fun o q => zk a o z q, RepL.mono zm zk ts vs r⟩
  | .inst c ns ts, _, xx => by obtain ⟨x, d, vs, e, z, z2, hl, r⟩ := xx; exact ⟨x, d, vs, e, zm x z, zm d z2, hl.keep (fun o q => zk x o z q) (fun o q => zk d o z2 q), RepL.mono zm zk ts vs r⟩
theorem RepL.mono (zm : ∀ a, Z a → Z' a) (zk : ∀ a o, Z a → h.get? a = some o → h'.get? a = some o) : ∀ (ts : List T) (vs : List Value), RepL B Z h ts vs → RepL B Z' h' ts vs
  | [], _, x => x
  | t :: ts, _, xx => by obtain ⟨v, r, e, x, y⟩ := xx; exact ⟨v, r, e, Rep.mono zm zk t v x, RepL.mono zm zk ts r y⟩
end
theorem RepL.length : ∀ {ts : List T} {vs : List Value}, RepL B Z h ts vs → vs.length = ts.length
  | [], _, x => by rw [show _ = ([] : List Value) from x]; rfl
  | t :: ts, _, xx => by obtain ⟨v, r, e, x, y⟩ := xx; rw [e, List.length_cons, List.length_cons, RepL.length y]
theorem RepL.append : ∀ {ts us : List T} {vs ws : List Value}, RepL B Z h ts vs → RepL B Z h us ws → RepL B Z h (ts ++ us) (vs ++ ws)
  | [], us, vs, ws, x, y => by rw [show vs = [] from x]; exact y
  | t :: ts, us, _, ws, xx, z => by obtain ⟨v, r, e, x, y⟩ := xx; exact ⟨v, r ++ ws, by rw [e]; rfl, x, RepL.append y z⟩
theorem RepL.get : ∀ {ts : List T} {vs : List Value} {i : Nat} {t : T}, RepL B Z h ts vs → ts[i]? = some t → ∃ v, vs[i]? = some v ∧ Rep B Z h t v
  | [], _, i, t, _, e => by simp at e
  | u :: ts, _, 0, t, xx, q => by
    obtain ⟨v, r, e, x, y⟩ := xx
    simp only [List.getElem?_cons_zero, Option.some.injEq] at q
    subst q; subst e; exact ⟨v, rfl, x⟩
  | u :: ts, _, i + 1, t, xx, q => by
    obtain ⟨v, r, e, x, y⟩ := xx
    subst e
    simp only [List.getElem?_cons_succ] at q ⊢
    exact RepL.get y q
theorem RepL.take : ∀ {ts : List T} {vs : List Value} (n : Nat), RepL B Z h ts vs → RepL B Z h (ts.take n) (vs.take n)
  | [], vs, n, x => by rw [show vs = [] from x]; simp [RepL]
  | t :: ts, _, 0, _ => by simp [RepL]
  | t :: ts, _, n + 1, xx => by obtain ⟨v, r, e, x, y⟩ := xx; subst e; exact ⟨v, r.take n, rfl, x, RepL.take n y⟩
theorem RepL.snoc {ts : List T} {vs : List Value} {t : T} {v : Value} (x : RepL B Z h ts vs) (y : Rep B Z h t v) : RepL B Z h (ts ++ [t]) (vs ++ [v]) := x.append ⟨v, [], rfl, y, rfl⟩
end

/-- the ghost: what is frozen; where the own objects lie -/
structure Gh where
  Z : Addr → Prop
  r : Nat → Addr
  d : Nat → Addr

noncomputable def AVal (B : Base) (g : Gh) (h : Heap) (σ : Sg) : AV → Value → Prop
  | .t x, v => Rep B g.Z h x v
  | .own i, v => i < σ.length ∧ v = .ref (g.r i)
noncomputable def AVals (B : Base) (g : Gh) (h : Heap) (σ : Sg) : List AV → List Value → Prop
  | [], vs => vs = []
  | a :: as, vs => ∃ v r, vs = v :: r ∧ AVal B g h σ a v ∧ AVals B g h σ as r

noncomputable def OwnA (g : Gh) (σ : Sg) (i : Nat) (a : Addr) : Prop := match σ[i]? with
  | some (.list _) => a = g.r i
  | some (.dict ..) => a = g.r i
  | some (.inst ..) => a = g.r i ∨ a = g.d i
  | _ => False
noncomputable def Owned (g : Gh) (σ : Sg) (a : Addr) : Prop := ∃ i, OwnA g σ i a

noncomputable def ObjOk (B : Base) (g : Gh) (h : Heap) (σ : Sg) (i : Nat) : OObj → Prop
  | .list ts => ∃ vs, h.PlainList (g.r i) (List.toArray vs) ∧ RepL B g.Z h ts vs
  | .dict ks ts => ∃ vs, DictIs B h (g.r i) ks vs ∧ RepL B g.Z h ts vs
  | .inst c ns as => g.r i ≠ g.d i ∧ ∃ vs, InstIs h (B.ca c) (g.r i) (g.d i) ns vs ∧ AVals B g h σ as vs
  | .frz t => Rep B g.Z h t (.ref (g.r i))

structure Inv (B : Base) (g : Gh) (σ : Sg) (h : Heap) : Prop where
  sm : sysModules < h.objs.size
  stays : ∀ a o, B.h0.get? a = some o → h.get? a = some o
  zbase : ∀ a o, B.h0.get? a = some o → g.Z a
  zlt : ∀ a, g.Z a → a < h.objs.size
  obj : ∀ i o, σ[i]? = some o → ObjOk B g h σ i o
  inj : ∀ i j a, OwnA g σ i a → OwnA g σ j a → i = j
  nz : ∀ i a, OwnA g σ i a → ¬ g.Z a

structure Ext (X : Addr → Prop) (g : Gh) (σ : Sg) (h : Heap) (g' : Gh) (σ' : Sg) (h' : Heap) : Prop where
  size : h.objs.size ≤ h'.objs.size
  keep : ∀ a o, h.get? a = some o → ¬ Owned g σ a → ¬ X a → h'.get? a = some o
  zm : ∀ a, g.Z a → g'.Z a
  zn : ∀ a, g'.Z a → g.Z a ∨ Owned g σ a ∨ h.objs.size ≤ a
  ag : ∀ i, i < σ.length → g'.r i = g.r i
  len : σ.length ≤ σ'.length
  on : ∀ a, Owned g' σ' a → Owned g σ a ∨ h.objs.size ≤ a
  zk : ∀ a o, g.Z a → h.get? a = some o → h'.get? a = some o

theorem Inv.owned_lt {B : Base} {g : Gh} {σ : Sg} {h : Heap} (I : Inv B g σ h) {a : Addr} (x : Owned g σ a) : a < h.objs.size := by
  obtain ⟨i, x⟩ := x
  unfold OwnA at x
  split at x
  · rename_i q; subst x
    obtain ⟨vs, ⟨n, e⟩, _⟩ := I.obj i _ q
    exact Heap.lt_size e
  · rename_i q; subst x
    obtain ⟨vs, e, _⟩ := I.obj i _ q
    rcases e with ⟨_, ⟨kvs, ⟨o, es, ep, ho, _⟩, _⟩ | ⟨kvs, ⟨o, es, ep, ho, _⟩, _⟩⟩ <;> exact Heap.lt_size ho
  · rename_i q
    obtain ⟨_, vs, ⟨e, es, n, e2, _⟩, _⟩ := I.obj i _ q
    rcases x with rfl | rfl
    · exact Heap.lt_size e
    · exact Heap.lt_size e2
  · exact x.elim

theorem Ext.refl {X : Addr → Prop} {g : Gh} {σ : Sg} {h : Heap} : Ext X g σ h g σ h :=
  ⟨Nat.le_refl _, fun _ _ e _ _ => e, fun _ z => z, fun _ z => .inl z, fun _ _ => rfl, Nat.le_refl _, fun _ o => .inl o, fun _ _ _ e => e⟩
theorem Ext.trans {B : Base} {X : Addr → Prop} {g g' g'' : Gh} {σ σ' σ'' : Sg} {h h' h'' : Heap} (_I : Inv B g σ h) (_I' : Inv B g' σ' h') (x : Ext X g σ h g' σ' h') (y : Ext X g' σ' h' g'' σ'' h'') : Ext X g σ h g'' σ'' h'' where
  size := Nat.le_trans x.size y.size
  keep a o e n nx := y.keep a o (x.keep a o e n nx) (fun q => (x.on a q).elim n fun l => absurd (Heap.lt_size e) (Nat.not_lt_of_le l)) nx
  zm a z := y.zm a (x.zm a z)
  zn a z := (y.zn a z).elim (x.zn a) fun q => q.elim (fun q => (x.on a q).elim (fun q => .inr (.inl q)) fun l => .inr (.inr l)) fun l => .inr (.inr (Nat.le_trans x.size l))
  ag i l := (y.ag i (Nat.lt_of_lt_of_le l x.len)).trans (x.ag i l)
  len := Nat.le_trans x.len y.len
  on a q := (y.on a q).elim (x.on a) fun l => .inr (Nat.le_trans x.size l)
  zk a o z e := y.zk a o (x.zm a z) (x.zk a o z e)
theorem Ext.weaken {X Y : Addr → Prop} {g g' : Gh} {σ σ' : Sg} {h h' : Heap} (x : Ext X g σ h g' σ' h') (k : ∀ a, X a → Y a) : Ext Y g σ h g' σ' h' :=
  ⟨x.size, fun a o e n nx => x.keep a o e n (fun q => nx (k a q)), x.zm, x.zn, x.ag, x.len, x.on, x.zk⟩
theorem Ext.rep {B : Base} {X : Addr → Prop} {g g' : Gh} {σ σ' : Sg} {h h' : Heap} (x : Ext X g σ h g' σ' h') {t : T} {v : Value} (r : Rep B g.Z h t v) : Rep B g'.Z h' t v := Rep.mono x.zm x.zk t v r
theorem Ext.repL {B : Base} {X : Addr → Prop} {g g' : Gh} {σ σ' : Sg} {h h' : Heap} (x : Ext X g σ h g' σ' h') {t : List T} {v : List Value} (r : RepL B g.Z h t v) : RepL B g'.Z h' t v := RepL.mono x.zm x.zk t v r
set_option tactic.hygienic false in
theorem Ext.aval {B : Base} {X : Addr → Prop} {g g' : Gh} {σ σ' : Sg} {h h' : Heap} (x : Ext X g σ h g' σ' h') {a : AV} {v : Value} (r : AVal B g h σ a v) : AVal B g' h' σ' a v := by
  cases a with
  | t t => exact x.rep r
  | own i => exact ⟨Nat.lt_of_lt_of_le r.1 x.len, by rw [r.2, x.ag i r.1]⟩
theorem Ext.avals {B : Base} {X : Addr → Prop} {g g' : Gh} {σ σ' : Sg} {h h' : Heap} (x : Ext X g σ h g' σ' h') : ∀ {a : List AV} {v : List Value}, AVals B g h σ a v → AVals B g' h' σ' a v
  | [], _, r => r
  | a :: as, _, xx => by obtain ⟨v, r, e, p, q⟩ := xx; exact ⟨v, r, e, x.aval p, x.avals q⟩

noncomputable def SameRest (s s' : Shared) : Prop := s'.gens = s.gens ∧ s'.drawn = s.drawn ∧ s'.os = s.os
theorem SameRest.refl {s : Shared} : SameRest s s := ⟨rfl, rfl, rfl⟩
theorem SameRest.trans {s s' s'' : Shared} (x : SameRest s s') (y : SameRest s' s'') : SameRest s s'' := ⟨y.1.trans x.1, y.2.1.trans x.2.1, y.2.2.trans x.2.2⟩

/-- the names of a frame -/
noncomputable def kindNow : NameKind → NameKind
  | .free => .cell
  | k => k
structure EnvOk (cx : Cx) (env : Env) : Prop where
  kind : env.scope.kind = .function
  globals : env.globals = mainGlobals
  builtins : env.builtins = builtinsNs
  names : ∀ x k, lkS x cx.names = some k → env.kindOf x = some (kindNow k)
  cells : ∀ x, env.kindOf x = some .cell → ∃ c, env.cells.lookup x = some c

structure FrameOk (B : Base) (env : Env) (g : Gh) (σ : Sg) (h : Heap) (Γ : Ga) : Prop where
  ns : ∃ m, h.Ns env.locals m ∧ ∀ x a, lkS x Γ = some a → env.kindOf x = some .local → ∃ v, m x = some v ∧ AVal B g h σ a v
  cell : ∀ x a, lkS x Γ = some a → env.kindOf x = some .cell → ∃ c v, env.cells.lookup x = some c ∧ h.IsCell c (some v) ∧ AVal B g h σ a v
  has : ∀ x c, env.cells.lookup x = some c → ∃ v, h.IsCell c v
  lz : ¬ g.Z env.locals
  lo : ¬ Owned g σ env.locals
  cz : ∀ x c, env.cells.lookup x = some c → ¬ g.Z c ∧ ¬ Owned g σ c ∧ c ≠ env.locals
  cinj : ∀ x y c, env.cells.lookup x = some c → env.cells.lookup y = some c → x = y

set_option tactic.hygienic false in
theorem FrameOk.extX {B : Base} {env : Env} {g g' : Gh} {σ σ' : Sg} {h h' : Heap} {Γ : Ga} {X : Addr → Prop} (F : FrameOk B env g σ h Γ) (x : Ext X g σ h g' σ' h') (hL : ¬ X env.locals) (hC : ∀ y c, env.cells.lookup y = some c → ¬ X c) : FrameOk B env g' σ' h' Γ := by
  obtain ⟨m, hn, hm⟩ := F.ns
  have keepL : ∀ o, h.get? env.locals = some o → h'.get? env.locals = some o := fun o e => x.keep _ o e F.lo hL
  have Lsz := hn.lt
  have csz : ∀ y c, env.cells.lookup y = some c → c < h.objs.size := fun y c e => let ⟨v, hv⟩ := F.has y c e; hv.lt
  refine ⟨⟨m, ?_, fun y a e k => let ⟨v, p, q⟩ := hm y a e k; ⟨v, p, x.aval q⟩⟩, ?_, ?_, ?_, ?_, ?_, F.cinj⟩
  · obtain ⟨o, es, ep, ho, r⟩ := hn; exact ⟨o, es, ep, keepL o ho, r⟩
  · intro y a e k
    obtain ⟨c, v, e1, ⟨o, ho, hd⟩, e3⟩ := F.cell y a e k
    exact ⟨c, v, e1, ⟨o, x.keep c o ho (F.cz y c e1).2.1 (hC y c e1), hd⟩, x.aval e3⟩
  · intro y c e
    obtain ⟨v, o, ho, hd⟩ := F.has y c e
    exact ⟨v, o, x.keep c o ho (F.cz y c e).2.1 (hC y c e), hd⟩
  · intro z; exact (x.zn _ z).elim F.lz fun q => q.elim F.lo fun l => absurd Lsz (Nat.not_lt_of_le l)
  · intro q; exact (x.on _ q).elim F.lo fun l => absurd Lsz (Nat.not_lt_of_le l)
  · intro y c e
    refine ⟨fun z => (x.zn _ z).elim (F.cz y c e).1 fun q => q.elim (F.cz y c e).2.1 fun l => absurd (csz y c e) (Nat.not_lt_of_le l), fun q => (x.on _ q).elim (F.cz y c e).2.1 fun l => absurd (csz y c e) (Nat.not_lt_of_le l), (F.cz y c e).2.2⟩
theorem FrameOk.ext {B : Base} {env : Env} {g g' : Gh} {σ σ' : Sg} {h h' : Heap} {Γ : Ga} (F : FrameOk B env g σ h Γ) (x : Ext (fun _ => False) g σ h g' σ' h') : FrameOk B env g' σ' h' Γ := F.extX x id fun _ _ _ => id

/-- the room that n steps down may take -/
structure Bnd (A : Around) (n : Nat) : Prop where
  depth : A.depth + 3 * n + 10 < recursionLimit
  units : A.units + 8 * n + 200 < cLine
  hd : A.handled = none

noncomputable abbrev BM (B : Base) : Model := model B.prog B.w

/-- the value came back: from (g, σ, s) -/
inductive PE (B : Base) (g : Gh) (σ : Sg) (s : Shared) (a : AV) (σ' : Sg) (v : Value) (s' : Shared) : Prop
  | mk (g' : Gh) (x : Ext (fun _ => False) g σ s.heap g' σ' s'.heap) (i : Inv B g' σ' s'.heap) (av : AVal B g' s'.heap σ' a v) (r : SameRest s s') : PE B g σ s a σ' v s'
inductive PB (B : Base) (g : Gh) (σ : Sg) (s : Shared) (b : Bool) (σ' : Sg) (v : Bool) (s' : Shared) : Prop
  | mk (g' : Gh) (x : Ext (fun _ => False) g σ s.heap g' σ' s'.heap) (i : Inv B g' σ' s'.heap) (e : v = b) (r : SameRest s s') : PB B g σ s b σ' v s'
noncomputable def FlIs (B : Base) (g : Gh) (h : Heap) (σ : Sg) : Fl → Flow → Prop
  | .next, f => f = .next
  | .ret a, f => ∃ v, f = .ret v ∧ AVal B g h σ a v
noncomputable def XE (env : Env) (a : Addr) : Prop := a = env.locals ∨ ∃ x, env.cells.lookup x = some a
inductive PX (B : Base) (env : Env) (g : Gh) (σ : Sg) (s : Shared) (fl : Fl) (Γ' : Ga) (σ' : Sg) (f : Flow) (s' : Shared) : Prop
  | mk (g' : Gh) (x : Ext (XE env) g σ s.heap g' σ' s'.heap) (i : Inv B g' σ' s'.heap) (fr : FrameOk B env g' σ' s'.heap Γ') (fi : FlIs B g' s'.heap σ' fl f) (r : SameRest s s') : PX B env g σ s fl Γ' σ' f s'
noncomputable def no {α : Type} : α → Shared → Prop := fun _ _ => False

structure Snd (B : Base) (R : Rec) (n : Nat) : Prop where
  e : ∀ cx Γ σ e a σ', R.e cx Γ σ e = some (a, σ') → ∀ A env g s, Bnd A n → EnvOk cx env → Inv B g σ s.heap → FrameOk B env g σ s.heap Γ → wpAny (BM B) A (eval e env) (PE B g σ s a σ') no s
  b : ∀ cx Γ σ e b σ', R.b cx Γ σ e = some (b, σ') → ∀ A env g s, Bnd A n → EnvOk cx env → Inv B g σ s.heap → FrameOk B env g σ s.heap Γ → wpAny (BM B) A (isTrue e env (eval e env)) (PB B g σ s b σ') no s
  x : ∀ cx Γ σ e fl Γ' σ', R.x cx Γ σ e = some (fl, Γ', σ') → ∀ A env g s, Bnd A n → EnvOk cx env → Inv B g σ s.heap → FrameOk B env g σ s.heap Γ → wpAny (BM B) A (execs e env) (PX B env g σ s fl Γ' σ') no s
  c : ∀ f as σ a σ', R.c f as σ = some (a, σ') → ∀ A g s vs, Bnd A n → Inv B g σ s.heap → AVals B g s.heap σ as vs →
    codeAny (BM B) A (.call (.ref (B.fa f)) ⟨vs, []⟩) (fun r s' => match r with | .ok (.ret v) => PE B g σ s a σ' v s' | _ => False) s

set_option tactic.hygienic false in
theorem Snd.none (B : Base) (n : Nat) : Snd B Rec.none n where
  e _ _ _ _ _ _ h := by simp [Rec.none] at h
  b _ _ _ _ _ _ h := by simp [Rec.none] at h
  x _ _ _ _ _ _ _ h := by simp [Rec.none] at h
  c _ _ _ _ _ h := by simp [Rec.none] at h
end Mine
end
section
set_option maxRecDepth 100000
set_option autoImplicit false
namespace Mine
open PySem PySem.W PyProof.Rows
inductive FrzR (B : Base) (g : Gh) (σ : Sg) (h : Heap) (σ' : Sg) (t : T) (v : Value) : Prop
  | mk (g' : Gh) (i : Inv B g' σ' h) (x : Ext (fun _ => False) g σ h g' σ' h) (r : Rep B g'.Z h t v) : FrzR B g σ h σ' t v
inductive FrzL (B : Base) (g : Gh) (σ : Sg) (h : Heap) (σ' : Sg) (ts : List T) (vs : List Value) : Prop
  | mk (g' : Gh) (i : Inv B g' σ' h) (x : Ext (fun _ => False) g σ h g' σ' h) (r : RepL B g'.Z h ts vs) : FrzL B g σ h σ' ts vs

section
variable {B : Base} {g : Gh} {σ : Sg} {h h' : Heap}

theorem AVals.mono {g' : Gh} {σ' : Sg} (rep : ∀ t v, Rep B g.Z h t v → Rep B g'.Z h' t v) (ag : ∀ i, i < σ.length → g'.r i = g.r i) (len : σ.length ≤ σ'.length) :
    ∀ {as : List AV} {vs : List Value}, AVals B g h σ as vs → AVals B g' h' σ' as vs
  | [], _, x => x
  | a :: as, _, xx => by obtain ⟨v, r, e, p, q⟩ := xx; exact ⟨v, r, e, (match a, p with
      | .t t, p => rep t v p
      | .own i, p => ⟨Nat.lt_of_lt_of_le p.1 len, by rw [p.2, ag i p.1]⟩), AVals.mono rep ag len q⟩

/-  an object of the ghost carried over: its own places are as they were -/
set_option tactic.hygienic false in
theorem ObjOk.carry {g' : Gh} {σ' : Sg} {i : Nat} {o : OObj} (x : ObjOk B g h σ i o) (hi : i < σ.length) (e : σ[i]? = some o)
    (rep : ∀ t v, Rep B g.Z h t v → Rep B g'.Z h' t v) (repL : ∀ t v, RepL B g.Z h t v → RepL B g'.Z h' t v)
    (k : ∀ a, OwnA g σ i a → ∀ o, h.get? a = some o → h'.get? a = some o) (ag : ∀ i, i < σ.length → g'.r i = g.r i) (agd : ∀ i, i < σ.length → g'.d i = g.d i) (len : σ.length ≤ σ'.length) : ObjOk B g' h' σ' i o := by
  induction o using OObj.casesOn with
  | list ts =>
    obtain ⟨vs, p, q⟩ := x
    refine ⟨vs, ?_, repL _ _ q⟩
    rw [ag i hi]
    exact p.at fun o q => k _ (by unfold OwnA; rw [e]) o q
  | dict ks ts =>
    obtain ⟨vs, p, q⟩ := x
    refine ⟨vs, ?_, repL _ _ q⟩
    rw [ag i hi]
    exact p.keep fun o q => k _ (by unfold OwnA; rw [e]) o q
  | inst c ns as =>
    obtain ⟨ne, vs, p, q⟩ := x
    refine ⟨by rw [ag i hi, agd i hi]; exact ne, vs, ?_, AVals.mono rep ag len q⟩
    rw [ag i hi, agd i hi]
    exact p.keep (fun o q => k _ (by unfold OwnA; rw [e]; exact .inl rfl) o q) (fun o q => k _ (by unfold OwnA; rw [e]; exact .inr rfl) o q)
  | frz t =>
    show Rep B g'.Z h' t _
    rw [ag i hi]
    exact rep t _ x

set_option tactic.hygienic false in
theorem lt_of_some {α : Type} {l : List α} {i : Nat} {a : α} (e : l[i]? = some a) : i < l.length := by
  rcases Nat.lt_or_ge i l.length with q | q
  · exact q
  · rw [List.getElem?_eq_none q] at e; first | exact nn e | exact nf e | first | exact nn e | exact nf e | cases e
/-  growth: new objects, some of them frozen -/
set_option tactic.hygienic false in
theorem Inv.grow (I : Inv B g σ h) (k : ∀ a o, h.get? a = some o → h'.get? a = some o) (sz : h.objs.size ≤ h'.objs.size) (P : Addr → Prop) (hP : ∀ a, P a → h.objs.size ≤ a ∧ a < h'.objs.size) :
    Inv B ⟨fun a => g.Z a ∨ P a, g.r, g.d⟩ σ h' ∧ Ext (fun _ => False) g σ h ⟨fun a => g.Z a ∨ P a, g.r, g.d⟩ σ h' := by
  have zk : ∀ a o, g.Z a → h.get? a = some o → h'.get? a = some o := fun a o _ e => k a o e
  have own : ∀ i a, OwnA (⟨fun a => g.Z a ∨ P a, g.r, g.d⟩ : Gh) σ i a ↔ OwnA g σ i a := fun _ _ => Iff.rfl
  refine ⟨⟨Nat.lt_of_lt_of_le I.sm sz, fun a o e => k a o (I.stays a o e), fun a o e => .inl (I.zbase a o e), ?_, ?_, fun i j a x y => I.inj i j a x y, ?_⟩, ?_⟩
  · rintro a (z | p)
    · exact Nat.lt_of_lt_of_le (I.zlt a z) sz
    · exact (hP a p).2
  · intro i o e
    exact (I.obj i o e).carry (lt_of_some e) e (fun t v => Rep.mono (fun _ z => .inl z) zk t v) (fun t v => RepL.mono (fun _ z => .inl z) zk t v) (fun a _ o q => k a o q) (fun _ _ => rfl) (fun _ _ => rfl) (Nat.le_refl _)
  · rintro i a x (z | p)
    · exact I.nz i a x z
    · exact absurd (I.owned_lt ⟨i, x⟩) (Nat.not_lt_of_le (hP a p).1)
  · exact ⟨sz, fun a o e _ _ => k a o e, fun _ z => .inl z, fun a z => z.elim .inl fun p => .inr (.inr (hP a p).1), fun _ _ => rfl, Nat.le_refl _, fun _ x => .inl x, zk⟩
set_option tactic.hygienic false in
theorem Inv.grow0 (I : Inv B g σ h) (k : ∀ a o, h.get? a = some o → h'.get? a = some o) (sz : h.objs.size ≤ h'.objs.size) : Inv B g σ h' ∧ Ext (fun _ => False) g σ h g σ h' := by
  have := I.grow k sz (fun _ => False) (fun _ x => x.elim)
  have e : (⟨fun a => g.Z a ∨ False, g.r, g.d⟩ : Gh) = g := by cases g; simp
  rw [e] at this
  exact this

/-  an own object is frozen -/
set_option tactic.hygienic false in
theorem Inv.freeze (I : Inv B g σ h) {i : Nat} {t : T} (hi : i < σ.length) (hr : Rep B (fun a => g.Z a ∨ OwnA g σ i a) h t (.ref (g.r i))) :
    Inv B ⟨fun a => g.Z a ∨ OwnA g σ i a, g.r, g.d⟩ (σ.set i (.frz t)) h ∧ Ext (fun _ => False) g σ h ⟨fun a => g.Z a ∨ OwnA g σ i a, g.r, g.d⟩ (σ.set i (.frz t)) h := by
  have own : ∀ j a, OwnA (⟨fun a => g.Z a ∨ OwnA g σ i a, g.r, g.d⟩ : Gh) (σ.set i (.frz t)) j a → OwnA g σ j a ∧ j ≠ i := by
    intro j a x
    unfold OwnA at x ⊢
    rw [List.getElem?_set] at x
    by_cases q : i = j
    · subst q; rw [if_pos rfl, if_pos hi] at x; exact x.elim
    · rw [if_neg q] at x; exact ⟨x, Ne.symm q⟩
  refine ⟨⟨I.sm, I.stays, fun a o e => .inl (I.zbase a o e), ?_, ?_, fun j k a x y => I.inj j k a (own j a x).1 (own k a y).1, ?_⟩, ?_⟩
  · rintro a (z | x)
    · exact I.zlt a z
    · exact I.owned_lt ⟨i, x⟩
  · intro j o e
    rw [List.getElem?_set] at e
    by_cases q : i = j
    · subst q; rw [if_pos rfl, if_pos hi] at e; first | exact nn e | exact nf e | first | exact nn e | exact nf e | cases e
      exact hr
    · rw [if_neg q] at e
      exact (I.obj j o e).carry (lt_of_some e) e (fun t v => Rep.mono (fun _ z => .inl z) (fun _ _ _ e => e) t v) (fun t v => RepL.mono (fun _ z => .inl z) (fun _ _ _ e => e) t v) (fun a _ o q => q) (fun _ _ => rfl) (fun _ _ => rfl) (by rw [List.length_set]; exact Nat.le_refl _)
  · rintro j a x (z | y)
    · exact I.nz j a (own j a x).1 z
    · exact (own j a x).2 (I.inj j i a (own j a x).1 y)
  · exact ⟨Nat.le_refl _, fun a o e _ _ => e, fun _ z => .inl z, fun a z => z.elim .inl fun p => .inr (.inl ⟨i, p⟩), fun _ _ => rfl, by rw [List.length_set]; exact Nat.le_refl _, fun a ⟨j, x⟩ => .inl ⟨j, (own j a x).1⟩, fun _ _ _ e => e⟩

set_option tactic.hygienic false in
theorem own_list {i : Nat} {ts : List T} (q : σ[i]? = some (.list ts)) : OwnA g σ i (g.r i) := by unfold OwnA; rw [q]
set_option tactic.hygienic false in
theorem own_dict {i : Nat} {ks : List Key} {ts : List T} (q : σ[i]? = some (.dict ks ts)) : OwnA g σ i (g.r i) := by unfold OwnA; rw [q]
set_option tactic.hygienic false in
theorem own_inst {i : Nat} {c : CN} {ns : List Str} {vs : List AV} (q : σ[i]? = some (.inst c ns vs)) : OwnA g σ i (g.r i) := by unfold OwnA; rw [q]; exact .inl rfl
set_option tactic.hygienic false in
theorem own_instd {i : Nat} {c : CN} {ns : List Str} {vs : List AV} (q : σ[i]? = some (.inst c ns vs)) : OwnA g σ i (g.d i) := by unfold OwnA; rw [q]; exact .inr rfl
set_option tactic.hygienic false in
theorem frzV1_ok (I : Inv B g σ h) {a : AV} {v : Value} (x : AVal B g h σ a v) {t : T} {σ' : Sg} (e : frzV1 σ a = some (t, σ')) :
    FrzR B g σ h σ' t v := by
  induction a using AV.casesOn with
  | t y => cases e; exact ⟨g, I, Ext.refl, x⟩
  | own i =>
    obtain ⟨hi, rfl⟩ := x
    simp only [frzV1, frzL] at e
    induction q : σ[i]? using Option.casesOn with
    | none => rw [q] at e; first | exact nn e | exact nf e | first | exact nn e | exact nf e | cases e
    | some o =>
      rw [q] at e
      have ok := I.obj i o q
      induction o using OObj.casesOn with
      | list ts =>
        first | exact nn e | exact nf e | first | exact nn e | exact nf e | cases e
        obtain ⟨vs, p, r⟩ := ok
        have y : Rep B (fun a => g.Z a ∨ OwnA g σ i a) h (.list ts) (.ref (g.r i)) := ⟨g.r i, vs, rfl, .inr (own_list q), p, RepL.mono (fun _ z => .inl z) (fun _ _ _ e => e) _ _ r⟩
        have z := I.freeze hi y
        exact ⟨_, z.1, z.2, y⟩
      | dict ks ts =>
        first | exact nn e | exact nf e | first | exact nn e | exact nf e | cases e
        obtain ⟨vs, p, r⟩ := ok
        have y : Rep B (fun a => g.Z a ∨ OwnA g σ i a) h (.dict ks ts) (.ref (g.r i)) := ⟨g.r i, vs, rfl, .inr (own_dict q), p, RepL.mono (fun _ z => .inl z) (fun _ _ _ e => e) _ _ r⟩
        have z := I.freeze hi y
        exact ⟨_, z.1, z.2, y⟩
      | inst c ns as => first | exact nn e | exact nf e | first | exact nn e | exact nf e | cases e
      | frz t =>
        first | exact nn e | exact nf e | first | exact nn e | exact nf e | cases e
        have hs : σ.set i (.frz t) = σ := by
          apply List.ext_getElem?
          intro j
          rw [List.getElem?_set]
          by_cases w : i = j
          · subst w; rw [if_pos rfl, if_pos hi, q]
          · rw [if_neg w]
        rw [hs]
        exact ⟨g, I, Ext.refl, ok⟩

theorem frzVs_ok : ∀ (as : List AV) {g : Gh} {σ : Sg} (_ : Inv B g σ h) {vs : List Value} (_ : AVals B g h σ as vs) {ts : List T} {σ' : Sg} (_ : frzVs σ as = some (ts, σ')),
    FrzL B g σ h σ' ts vs
  | [], g, σ, I, vs, x, ts, σ', e => by cases e; exact ⟨g, I, Ext.refl, x⟩
  | a :: as, g, σ, I, vs, xx, ts, σ', e => by
    obtain ⟨v, r, ev, p, q⟩ := xx
    unfold frzVs at e
    split at e
    · rename_i t σ₁ e1
      split at e
      · rename_i ts' σ₂ e2
        first | exact nn e | exact nf e | first | exact nn e | exact nf e | cases e
        obtain ⟨g₁, I₁, x₁, r₁⟩ := frzV1_ok I p e1
        obtain ⟨g₂, I₂, x₂, r₂⟩ := frzVs_ok as I₁ (x₁.avals q) e2
        exact ⟨g₂, I₂, x₁.trans I I₁ x₂, ⟨v, r, ev, x₂.rep r₁, r₂⟩⟩
      · first | exact nn e | exact nf e | first | exact nn e | exact nf e | cases e
    · first | exact nn e | exact nf e | first | exact nn e | exact nf e | cases e
/-- freezing keeps an object in its place -/
theorem frzVs_inst : ∀ (as : List AV) {σ σ' : Sg} {ts : List T} {i : Nat} {c : CN} {ns : List Str} {vs : List AV}, frzVs σ as = some (ts, σ') → σ[i]? = some (.inst c ns vs) → σ'[i]? = some (.inst c ns vs)
  | [], σ, σ', ts, i, c, ns, vs, e, q => by cases e; exact q
  | a :: as, σ, σ', ts, i, c, ns, vs, e, q => by
    unfold frzVs at e
    split at e
    · rename_i t σ₁ e1
      split at e
      · rename_i ts' σ₂ e2
        first | exact nn e | exact nf e | first | exact nn e | exact nf e | cases e
        refine frzVs_inst as e2 ?_
        induction a using AV.casesOn with
        | t y => cases e1; exact q
        | own j =>
          simp only [frzV1, frzL] at e1
          by_cases w : j = i
          · subst w; rw [q] at e1; first | exact nn e1 | exact nf e1 | first | exact nn e1 | exact nf e1 | cases e1
          · split at e1
            · cases e1; rw [List.getElem?_set, if_neg w]; exact q
            · first | exact nn e1 | exact nf e1 | first | exact nn e1 | exact nf e1 | cases e1
      · first | exact nn e | exact nf e | first | exact nn e | exact nf e | cases e
    · first | exact nn e | exact nf e | first | exact nn e | exact nf e | cases e

/-  the values of an object's fields stay the values -/
set_option tactic.hygienic false in
theorem inst_same {ns : List Str} {es : List DictEntry} : ∀ {vs us : List Value}, FieldsAre ns vs es → FieldsAre ns us es → vs = us := by
  induction ns generalizing es with
  | nil => intro vs us x y; cases vs <;> cases us <;> cases es <;> first | rfl | exact x.elim | exact y.elim
  | cons n ns ih =>
    intro vs us x y
    induction es using List.casesOn with
    | nil => cases vs <;> exact x.elim
    | cons e es =>
      induction vs using List.casesOn with
      | nil => exact x.elim
      | cons v vs =>
        induction us using List.casesOn with
        | nil => exact y.elim
        | cons u us => rw [← x.2.1, ← y.2.1, ih x.2.2 y.2.2]

theorem frz_ok (I : Inv B g σ h) {a : AV} {v : Value} (x : AVal B g h σ a v) {t : T} {σ' : Sg} (e : frz σ a = some (t, σ')) :
    FrzR B g σ h σ' t v := by
  induction a using AV.casesOn with
  | t y => cases e; exact ⟨g, I, Ext.refl, x⟩
  | own i =>
    unfold frz at e
    dsimp only at e
    split at e
    · rename_i c ns as q
      split at e
      · rename_i ts σ₁ e1
        split at e
        · rename_i c' ns' as' q'
          first | exact nn e | exact nf e | first | exact nn e | exact nf e | cases e
          obtain ⟨hi, rfl⟩ := x
          obtain ⟨ne, vs, p, r⟩ := I.obj i _ q
          obtain ⟨g₁, I₁, x₁, r₁⟩ := frzVs_ok as I r e1
          have q1 := frzVs_inst as e1 q
          have hi₁ : i < σ₁.length := Nat.lt_of_lt_of_le hi x₁.len
          obtain ⟨ne₁, vs₁, p₁, _⟩ := I₁.obj i _ q1
          have hr : g₁.r i = g.r i := x₁.ag i hi
          have hvs : vs₁ = vs ∧ g₁.d i = g.d i := by
            obtain ⟨a1, es, n, a2, a3⟩ := p
            obtain ⟨b1, es', n', b2, b3⟩ := p₁
            rw [hr, a1] at b1
            have hd : g.d i = g₁.d i := by injection b1 with b1; injection b1 with _ b1; exact Option.some.inj b1
            rw [← hd, a2] at b2
            have : es = es' := by injection b2 with b2; injection b2 with _ _ b2; injection b2 with b2; simpa using b2
            subst this
            exact ⟨inst_same b3 a3, hd.symm⟩
          obtain ⟨rfl, hd⟩ := hvs
          have y : Rep B (fun a => g₁.Z a ∨ OwnA g₁ σ₁ i a) h (.inst c ns ts) (.ref (g₁.r i)) :=
            ⟨g₁.r i, g₁.d i, vs₁, rfl, .inr (own_inst q1), .inr (own_instd q1), p₁, RepL.mono (fun _ z => .inl z) (fun _ _ _ e => e) _ _ r₁⟩
          have z := I₁.freeze hi₁ y
          refine ⟨_, z.1, x₁.trans I I₁ z.2, ?_⟩
          rw [← hr]; exact y
        · first | exact nn e | exact nf e | first | exact nn e | exact nf e | cases e
      · first | exact nn e | exact nf e | first | exact nn e | exact nf e | cases e
    · exact frzV1_ok I x e
theorem frzs_ok : ∀ (as : List AV) {g : Gh} {σ : Sg} (_ : Inv B g σ h) {vs : List Value} (_ : AVals B g h σ as vs) {ts : List T} {σ' : Sg} (_ : frzs σ as = some (ts, σ')),
    FrzL B g σ h σ' ts vs
  | [], g, σ, I, vs, x, ts, σ', e => by cases e; exact ⟨g, I, Ext.refl, x⟩
  | a :: as, g, σ, I, vs, xx, ts, σ', e => by
    obtain ⟨v, r, ev, p, q⟩ := xx
    unfold frzs at e
    split at e
    · rename_i t σ₁ e1
      split at e
      · rename_i ts' σ₂ e2
        first | exact nn e | exact nf e | first | exact nn e | exact nf e | cases e
        obtain ⟨g₁, I₁, x₁, r₁⟩ := frz_ok I p e1
        obtain ⟨g₂, I₂, x₂, r₂⟩ := frzs_ok as I₁ (x₁.avals q) e2
        exact ⟨g₂, I₂, x₁.trans I I₁ x₂, ⟨v, r, ev, x₂.rep r₁, r₂⟩⟩
      · first | exact nn e | exact nf e | first | exact nn e | exact nf e | cases e
    · first | exact nn e | exact nf e | first | exact nn e | exact nf e | cases e

/-- what an own object is, seen: where it is a list or a dict its value is told without the freezing -/
noncomputable def Sees (B : Base) (g : Gh) (h : Heap) (t : T) (v : Value) : Prop := match t with
  | .list ts => ∃ a vs, v = .ref a ∧ h.PlainList a (List.toArray vs) ∧ RepL B g.Z h ts vs
  | .dict ks ts => ∃ a vs, v = .ref a ∧ DictIs B h a ks vs ∧ RepL B g.Z h ts vs
  | t => Rep B g.Z h t v
theorem look_ok (I : Inv B g σ h) {a : AV} {v : Value} (x : AVal B g h σ a v) {t : T} (e : look σ a = some t) : Sees B g h t v := by
  have ofRep : ∀ t v, Rep B g.Z h t v → Sees B g h t v := by
    intro t v r
    cases t with
    | list ts => obtain ⟨a, vs, e, z, p, q⟩ := r; exact ⟨a, vs, e, p, q⟩
    | dict ks ts => obtain ⟨a, vs, e, z, p, q⟩ := r; exact ⟨a, vs, e, p, q⟩
    | _ => exact r
  induction a using AV.casesOn with
  | t y => cases e; exact ofRep _ _ x
  | own i =>
    obtain ⟨hi, rfl⟩ := x
    simp only [look, frzL] at e
    split at e
    · rename_i ts q; cases e; obtain ⟨vs, p, r⟩ := I.obj i _ q; exact ⟨_, vs, rfl, p, r⟩
    · rename_i ks ts q; cases e; obtain ⟨vs, p, r⟩ := I.obj i _ q; exact ⟨_, vs, rfl, p, r⟩
    · rename_i t q; cases e; exact ofRep _ _ (I.obj i _ q)
    · first | exact nn e | exact nf e | first | exact nn e | exact nf e | cases e

/-  a new own object -/
set_option tactic.hygienic false in
theorem Inv.newOwn (I : Inv B g σ h) (k : ∀ a o, h.get? a = some o → h'.get? a = some o) (sz : h.objs.size ≤ h'.objs.size) (a d : Addr) (ha : h.objs.size ≤ a) (hd : h.objs.size ≤ d) (o : OObj)
    (ok : ObjOk B ⟨g.Z, fun j => if j = σ.length then a else g.r j, fun j => if j = σ.length then d else g.d j⟩ h' (σ ++ [o]) σ.length o) :
    ∃ g' : Gh, Inv B g' (σ ++ [o]) h' ∧ Ext (fun _ => False) g σ h g' (σ ++ [o]) h' ∧ g'.r σ.length = a ∧ g'.Z = g.Z := by
  have zk : ∀ a o, g.Z a → h.get? a = some o → h'.get? a = some o := fun a o _ e => k a o e
  have ag : ∀ j, j < σ.length → (if j = σ.length then a else g.r j) = g.r j := fun j hj => if_neg (Nat.ne_of_lt hj)
  have agd : ∀ j, j < σ.length → (if j = σ.length then d else g.d j) = g.d j := fun j hj => if_neg (Nat.ne_of_lt hj)
  have own : ∀ j b, OwnA (⟨g.Z, fun j => if j = σ.length then a else g.r j, fun j => if j = σ.length then d else g.d j⟩ : Gh) (σ ++ [o]) j b → (OwnA g σ j b) ∨ (j = σ.length ∧ h.objs.size ≤ b) := by
    intro j b x
    unfold OwnA at x
    rcases Nat.lt_trichotomy j σ.length with q | q | q
    · left
      rw [List.getElem?_append_left q] at x
      unfold OwnA
      dsimp only at x
      rw [ag j q, agd j q] at x
      exact x
    · right
      subst q
      refine ⟨rfl, ?_⟩
      rw [List.getElem?_append_right (Nat.le_refl _), Nat.sub_self] at x
      dsimp only [List.getElem?_cons_zero] at x
      rw [if_pos rfl, if_pos rfl] at x
      induction o using OObj.casesOn with
      | list ts => rw [show b = a from x]; exact ha
      | dict ks ts => rw [show b = a from x]; exact ha
      | inst c ns as => rcases (show b = a ∨ b = d from x) with q | q <;> rw [q] <;> assumption
      | frz t => exact x.elim
    · rw [List.getElem?_eq_none (by rw [List.length_append]; simp only [List.length_cons, List.length_nil]; omega)] at x
      exact x.elim
  refine ⟨⟨g.Z, fun j => if j = σ.length then a else g.r j, fun j => if j = σ.length then d else g.d j⟩, ⟨Nat.lt_of_lt_of_le I.sm sz, fun a o e => k a o (I.stays a o e), I.zbase, fun a z => Nat.lt_of_lt_of_le (I.zlt a z) sz, ?_, ?_, ?_⟩, ?_, if_pos rfl, rfl⟩
  · intro j o' e
    rcases Nat.lt_or_ge j σ.length with q | q
    · rw [List.getElem?_append_left q] at e
      exact (I.obj j o' e).carry q e (fun t v => Rep.mono (fun _ z => z) zk t v) (fun t v => RepL.mono (fun _ z => z) zk t v) (fun a _ o q => k a o q) ag agd (by rw [List.length_append]; exact Nat.le_add_right _ _)
    · have : j = σ.length := by
        have := lt_of_some e
        rw [List.length_append] at this
        simp only [List.length_cons, List.length_nil] at this
        omega
      subst this
      rw [List.getElem?_append_right (Nat.le_refl _), Nat.sub_self, List.getElem?_cons_zero] at e
      first | exact nn e | exact nf e | first | exact nn e | exact nf e | cases e
      exact ok
  · intro i j b x y
    rcases own i b x with x | ⟨x, l⟩
    · rcases own j b y with y | ⟨y, l⟩
      · exact I.inj i j b x y
      · exact absurd (I.owned_lt ⟨i, x⟩) (Nat.not_lt_of_le l)
    · rcases own j b y with y | ⟨y, l'⟩
      · exact absurd (I.owned_lt ⟨j, y⟩) (Nat.not_lt_of_le l)
      · rw [x, y]
  · intro i b x z
    rcases own i b x with x | ⟨x, l⟩
    · exact I.nz i b x z
    · exact absurd (I.zlt b z) (Nat.not_lt_of_le l)
  · exact ⟨sz, fun a o e _ _ => k a o e, fun _ z => z, fun a z => .inl z, ag, by rw [List.length_append]; exact Nat.le_add_right _ _, fun b ⟨j, x⟩ => (own j b x).imp (fun x => ⟨j, x⟩) (fun x => x.2), zk⟩

/-  an own object changed in its place -/
set_option tactic.hygienic false in
theorem Inv.setOwn (I : Inv B g σ h) {i : Nat} {b : Addr} {o o' : OObj} (q : σ[i]? = some o) (hb : OwnA g σ i b) (hs : Heap.SameBut b h h')
    (same : ∀ a, OwnA g (σ.set i o') i a → OwnA g σ i a) (ok : ObjOk B g h' (σ.set i o') i o') :
    Inv B g (σ.set i o') h' ∧ Ext (fun _ => False) g σ h g (σ.set i o') h' := by
  have hi := lt_of_some q
  have zk : ∀ a o, g.Z a → h.get? a = some o → h'.get? a = some o := fun a o z e => (hs.2 a (fun w => I.nz i b hb (w ▸ z))).trans e
  have own : ∀ j a, OwnA g (σ.set i o') j a → OwnA g σ j a := by
    intro j a x
    by_cases w : j = i
    · subst w; exact same a x
    · unfold OwnA at x ⊢
      rw [List.getElem?_set, if_neg (Ne.symm w)] at x
      exact x
  have zb : ¬ g.Z b := I.nz i b hb
  refine ⟨⟨hs.1 ▸ I.sm, fun a o e => zk a o (I.zbase a o e) (I.stays a o e), I.zbase, fun a z => hs.1 ▸ I.zlt a z, ?_, fun i j a x y => I.inj i j a (own i a x) (own j a y), fun j a x => I.nz j a (own j a x)⟩, ?_⟩
  · intro j o₁ e
    rw [List.getElem?_set] at e
    by_cases w : i = j
    · subst w; rw [if_pos rfl, if_pos hi] at e; cases e; exact ok
    · rw [if_neg w] at e
      exact (I.obj j o₁ e).carry (lt_of_some e) e (fun t v => Rep.mono (fun _ z => z) zk t v) (fun t v => RepL.mono (fun _ z => z) zk t v)
        (fun a x o q => (hs.2 a (fun y => w (I.inj i j b hb (y ▸ x)))).trans q) (fun _ _ => rfl) (fun _ _ => rfl) (by rw [List.length_set]; exact Nat.le_refl _)
  · exact ⟨Nat.le_of_eq hs.1.symm, fun a o e n _ => (hs.2 a (fun w => n (w ▸ ⟨i, hb⟩))).trans e, fun _ z => z, fun a z => .inl z, fun _ _ => rfl, by rw [List.length_set]; exact Nat.le_refl _, fun a ⟨j, x⟩ => .inl ⟨j, own j a x⟩, zk⟩
end
end Mine
end
section
set_option maxRecDepth 100000
set_option autoImplicit false
namespace Mine
open PySem PySem.W PyProof.Rows

theorem line_ge {n : Nat} (h : n ≤ 1000000) : n ≤ sizeLine := Nat.le_trans h (by decide)
theorem sizeOk_le {n : Nat} (h : sizeOk n = true) : n ≤ 1000 := Nat.le_of_ble_eq_true h
set_option tactic.hygienic false in
theorem strOk_le {x : Str} (h : strOk x = true) : x.length ≤ 100000 := by
  have := Nat.le_of_ble_eq_true h
  simpa [Str.length] using this

section
variable {B : Base} {g : Gh} {σ : Sg} {A : Around} {s : Shared}

theorem PE.here (I : Inv B g σ s.heap) {a : AV} {v : Value} (x : AVal B g s.heap σ a v) {s' : Shared} (e : s'.heap = s.heap) (r : SameRest s s') : PE B g σ s a σ v s' :=
  ⟨g, by rw [e]; exact Ext.refl, by rw [e]; exact I, by rw [e]; exact x, r⟩
/-- one step behind another -/
theorem PE.trans (I : Inv B g σ s.heap) {g₁ : Gh} {σ₁ σ₂ : Sg} {s₁ s₂ : Shared} (x : Ext (fun _ => False) g σ s.heap g₁ σ₁ s₁.heap) (I₁ : Inv B g₁ σ₁ s₁.heap) (r : SameRest s s₁) {a : AV} {v : Value} (y : PE B g₁ σ₁ s₁ a σ₂ v s₂) : PE B g σ s a σ₂ v s₂ :=
  let ⟨g₂, e, i, av, r'⟩ := y
  ⟨g₂, x.trans I I₁ e, i, av, r.trans r'⟩
theorem PB.trans (I : Inv B g σ s.heap) {g₁ : Gh} {σ₁ σ₂ : Sg} {s₁ s₂ : Shared} (x : Ext (fun _ => False) g σ s.heap g₁ σ₁ s₁.heap) (I₁ : Inv B g₁ σ₁ s₁.heap) (r : SameRest s s₁) {a : Bool} {v : Bool} (y : PB B g₁ σ₁ s₁ a σ₂ v s₂) : PB B g σ s a σ₂ v s₂ :=
  let ⟨g₂, e, i, av, r'⟩ := y
  ⟨g₂, x.trans I I₁ e, i, av, r.trans r'⟩
/-  the heap has grown; the new things up from the old size are frozen -/
set_option tactic.hygienic false in
theorem PE.grown (I : Inv B g σ s.heap) {h' : Heap} {tk : Nat} (k : ∀ a o, s.heap.get? a = some o → h'.get? a = some o) (sz : s.heap.objs.size ≤ h'.objs.size) {t : T} {v : Value}
    (x : Rep B (fun a => g.Z a ∨ (s.heap.objs.size ≤ a ∧ a < h'.objs.size)) h' t v) : PE B g σ s (.t t) σ v ⟨h', s.gens, s.drawn, tk, s.os⟩ := by
  obtain ⟨i, e⟩ := I.grow k sz (fun a => s.heap.objs.size ≤ a ∧ a < h'.objs.size) fun _ z => z
  exact ⟨_, e, i, x, rfl, rfl, rfl⟩
theorem RepL.grown {Z : Addr → Prop} {h h' : Heap} (k : ∀ a o, h.get? a = some o → h'.get? a = some o) {t : List T} {v : List Value} (x : RepL B Z h t v) {P : Addr → Prop} : RepL B (fun a => Z a ∨ P a) h' t v := RepL.mono (fun _ z => .inl z) (fun a o _ e => k a o e) t v x

theorem push_keeps (h : Heap) (o : Obj) : ∀ a o', h.get? a = some o' → (h.push o).get? a = some o' := fun _ _ e => Heap.get?_push_of_some o e

theorem PE.rep (I : Inv B g σ s.heap) {t : T} {v : Value} {tk : Nat} (x : Rep B g.Z s.heap t v) : PE B g σ s (.t t) σ v ⟨s.heap, s.gens, s.drawn, tk, s.os⟩ := ⟨g, Ext.refl, I, x, rfl, rfl, rfl⟩
theorem PE.pushed (I : Inv B g σ s.heap) {o : Obj} {t : T} {v : Value} {tk : Nat} (x : Rep B (fun a => g.Z a ∨ (s.heap.objs.size ≤ a ∧ a < (s.heap.push o).objs.size)) (s.heap.push o) t v) :
    PE B g σ s (.t t) σ v ⟨s.heap.push o, s.gens, s.drawn, tk, s.os⟩ := PE.grown I (push_keeps _ _) (by simp) x
theorem new_in (h : Heap) (o : Obj) : h.objs.size ≤ h.objs.size ∧ h.objs.size < (h.push o).objs.size := ⟨Nat.le_refl _, by simp⟩
theorem ints_of {Z : Addr → Prop} {h : Heap} : ∀ {ts : List T} {vs : List Value} {ns : List Int}, RepL B Z h ts vs → intsOf ts = some ns → IntsAre vs ns
  | [], vs, ns, x, e => by cases e; rw [show vs = [] from x]; exact .nil
  | t :: ts, vs, ns, xx, e => by
    obtain ⟨v, r, ev, x, y⟩ := xx
    unfold intsOf at e
    split at e
    · rename_i q; first | exact nn q | exact nf q | first | exact nn q | exact nf q | cases q
    · rename_i n r' q
      first | exact nn q | exact nf q | first | exact nn q | exact nf q | cases q
      obtain ⟨k, rfl⟩ := x
      induction q2 : intsOf ts using Option.casesOn with
      | none => rw [q2] at e; first | exact nn e | exact nf e | first | exact nn e | exact nf e | cases e
      | some l => rw [q2] at e; cases e; subst ev; exact .cons n k (ints_of y q2)
    · first | exact nn e | exact nf e | first | exact nn e | exact nf e | cases e
theorem strs_of {Z : Addr → Prop} {h : Heap} : ∀ {ts : List T} {vs : List Value} {ns : List Str}, RepL B Z h ts vs → strsOf ts = some ns → StrsAre vs ns
  | [], vs, ns, x, e => by cases e; rw [show vs = [] from x]; exact .nil
  | t :: ts, vs, ns, xx, e => by
    obtain ⟨v, r, ev, x, y⟩ := xx
    unfold strsOf at e
    split at e
    · rename_i q; first | exact nn q | exact nf q | first | exact nn q | exact nf q | cases q
    · rename_i n r' q
      first | exact nn q | exact nf q | first | exact nn q | exact nf q | cases q
      obtain ⟨k, rfl⟩ := x
      induction q2 : strsOf ts using Option.casesOn with
      | none => rw [q2] at e; first | exact nn e | exact nf e | first | exact nn e | exact nf e | cases e
      | some l => rw [q2] at e; cases e; subst ev; exact .cons n k (strs_of y q2)
    · first | exact nn e | exact nf e | first | exact nn e | exact nf e | cases e
theorem memInts_any (n : Int) : ∀ l : List Int, memInts n l = l.any (· == n)
  | [] => rfl
  | m :: r => by
    unfold memInts
    by_cases h : m = n
    · simp [h]
    · simp [h, memInts_any n r]
theorem memStrs_any (n : Str) : ∀ l : List Str, memStrs n l = l.any (· == n)
  | [] => rfl
  | m :: r => by
    unfold memStrs
    rw [sEq_beq]
    induction h : m == n using Bool.casesOn with
    | true => simp [h]
    | false => simp [h, memStrs_any n r]
theorem memN_mem (n : Nat) : ∀ l : List Nat, memN n l = decide (n ∈ l)
  | [] => by simp [memN]
  | m :: r => by
    unfold memN
    induction h : Nat.beq m n using Bool.casesOn with
    | true => simp [Nat.eq_of_beq_eq_true h]
    | false => have := Nat.ne_of_beq_eq_false h; simp [memN_mem n r, Ne.symm this]

set_option tactic.hygienic false in
theorem add_list_ok {l b : Addr} {vs ws : List Value} {ts us : List T} (I : Inv B g σ s.heap) (hl : s.heap.PlainList l vs.toArray) (hb : s.heap.PlainList b ws.toArray) (r1 : RepL B g.Z s.heap ts vs) (r2 : RepL B g.Z s.heap us ws) (hsz : ts.length + us.length ≤ 1000) :
    wpAny (BM B) A (binaryOp .Add (.ref l) (.ref b)) (PE B g σ s (.t (.list (ts ++ us))) σ) no s := by
  obtain ⟨n, e1⟩ := hl
  obtain ⟨n2, e2⟩ := hb
  refine wpAny_binaryOp_concat ⟨_, e1, rfl⟩ ⟨_, e2, rfl⟩ noFill_list_add seq_list_add
    (call_meets PySem.F.slot_list_add ⟨_, e1, rfl⟩ PySem.F.entry_list_add (PySem.F.args_list_add_2 _ _) (AutoSeq1.list___add___list_list_0 l vs.toArray n b ws.toArray n2 ?_) ⟨e1, e2, ?_⟩)
  · have h1 := r1.length; have h2 := r2.length
    simp only [List.size_toArray]
    exact line_ge (by omega)
  · exact PE.pushed I ⟨s.heap.objs.size, vs ++ ws, rfl, .inr (new_in _ _), ⟨0, by rw [Heap.get?_push_size _ rfl]; simp⟩, (r1.append r2).grown (push_keeps _ _)⟩
set_option tactic.hygienic false in
theorem add_tup_ok {l b : Addr} {vs ws : List Value} {ts us : List T} (I : Inv B g σ s.heap) (hz1 : g.Z l) (hz2 : g.Z b) (hl : PlainTup s.heap l vs.toArray) (hb : PlainTup s.heap b ws.toArray) (r1 : RepL B g.Z s.heap ts vs) (r2 : RepL B g.Z s.heap us ws) (hsz : ts.length + us.length ≤ 1000) :
    wpAny (BM B) A (binaryOp .Add (.ref l) (.ref b)) (PE B g σ s (.t (.tup (ts ++ us))) σ) no s := by
  obtain ⟨n, e1⟩ := id hl
  obtain ⟨n2, e2⟩ := id hb
  have h1 := r1.length; have h2 := r2.length
  by_cases c0 : vs.toArray.isEmpty = true
  · refine wpAny_binaryOp_concat ⟨_, e1, rfl⟩ ⟨_, e2, rfl⟩ noFill_tuple_add seq_tuple_add
      (call_meets PySem.F.slot_tuple_add ⟨_, e1, rfl⟩ PySem.F.entry_tuple_add (PySem.F.args_tuple_add_2 _ _) (AutoSeq1.tuple___add___tuple_tuple_0 l vs.toArray n b ws.toArray n2 c0) ⟨e1, e2, ?_⟩)
    have : vs = [] := by simpa using c0
    subst this
    have : ts = [] := by cases ts with | nil => rfl | cons t ts => simp at h1
    subst this
    exact PE.rep I (show Rep B g.Z s.heap (.tup us) (.ref b) from ⟨b, ws, rfl, hz2, hb, r2⟩)
  by_cases c1 : ws.toArray.isEmpty = true
  · refine wpAny_binaryOp_concat ⟨_, e1, rfl⟩ ⟨_, e2, rfl⟩ noFill_tuple_add seq_tuple_add
      (call_meets PySem.F.slot_tuple_add ⟨_, e1, rfl⟩ PySem.F.entry_tuple_add (PySem.F.args_tuple_add_2 _ _) (AutoSeq1.tuple___add___tuple_tuple_1 l vs.toArray n b ws.toArray n2 c0 c1) ⟨e1, e2, ?_⟩)
    have : ws = [] := by simpa using c1
    subst this
    have : us = [] := by cases us with | nil => rfl | cons t ts => simp at h2
    subst this
    rw [List.append_nil]
    exact PE.rep I (show Rep B g.Z s.heap (.tup ts) (.ref l) from ⟨l, vs, rfl, hz1, hl, r1⟩)
  · refine wpAny_binaryOp_concat ⟨_, e1, rfl⟩ ⟨_, e2, rfl⟩ noFill_tuple_add seq_tuple_add
      (call_meets PySem.F.slot_tuple_add ⟨_, e1, rfl⟩ PySem.F.entry_tuple_add (PySem.F.args_tuple_add_2 _ _) (AutoSeq1.tuple___add___tuple_tuple_2 l vs.toArray n b ws.toArray n2 c0 c1 ?_) ⟨e1, e2, ?_⟩)
    · simp only [List.size_toArray]
      exact line_ge (by omega)
    · exact PE.pushed I ⟨s.heap.objs.size, vs ++ ws, rfl, .inr (new_in _ _), ⟨0, by rw [Heap.get?_push_size _ rfl]; simp⟩, (r1.append r2).grown (push_keeps _ _)⟩

set_option tactic.hygienic false in
theorem int_small {n : Int} (h : intOk n = true) : -1000000 ≤ n ∧ n ≤ 1000000 := by
  unfold intOk at h
  have := Bool.and_eq_true_iff.mp h
  exact ⟨of_decide_eq_true this.1, of_decide_eq_true this.2⟩
set_option tactic.hygienic false in
theorem mul_small {a b : Int} (h1 : -1000000 ≤ a ∧ a ≤ 1000000) (h2 : -1000000 ≤ b ∧ b ≤ 1000000) : IntMulOk a b := by
  have _ := h2
  exact IntMulOk.of_left (intBits_le_64 (by omega) (by omega))
set_option tactic.hygienic false in
theorem fd_small {b : Int} (h : -1000000 ≤ b ∧ b ≤ 1000000) : b.natAbs < 1073741824 := by omega
set_option tactic.hygienic false in
theorem not_zero {b : Int} (h : (!decide (b = 0)) = true) : b ≠ 0 := by simpa using h
set_option tactic.hygienic false in
theorem binA_ok (I : Inv B g σ s.heap) {op : Operator} {x y : T} {t : T} (e : binA op x y = some t) {v u : Value} (hv : Sees B g s.heap x v) (hu : Sees B g s.heap y u) :
    wpAny (BM B) A (binaryOp op v u) (PE B g σ s (.t t) σ) no s := by
  refine pgen fun P hP => ?_
  cases op with
  | Add => induction x using T.casesOn with
    | int a => induction y using T.casesOn with
      | int b =>
        first | exact nn e | exact nf e | first | exact nn e | exact nf e | cases e
        obtain ⟨k1, rfl⟩ := hv
        obtain ⟨k2, rfl⟩ := hu
        exact hP (add_int (PE.rep I ⟨_, rfl⟩))
      | _ => first | exact nn e | exact nf e | first | exact nn e | exact nf e | cases e
    | str a => cases y with
      | str b =>
        obtain ⟨q, rfl⟩ := if_inv (show (if strOk a && strOk b then some (T.str (catS a b)) else none) = some t from e)
        have q := Bool.and_eq_true_iff.mp q
        obtain ⟨k1, rfl⟩ := hv
        obtain ⟨k2, rfl⟩ := hu
        exact hP (PyProof.Rows.add_str (fun t' tk => PE.rep I ⟨t', rfl⟩) (line_ge (by have := strOk_le q.1; have := strOk_le q.2; omega)))
      | _ => first | exact nn e | exact nf e | first | exact nn e | exact nf e | cases e
    | list a => cases y with
      | list b =>
        obtain ⟨q, rfl⟩ := if_inv (show (if sizeOk (a.length + b.length) then some (T.list (a ++ b)) else none) = some t from e)
        obtain ⟨l1, vs, rfl, p1, r1⟩ := hv
        obtain ⟨l2, ws, rfl, p2, r2⟩ := hu
        exact hP (add_list_ok I p1 p2 r1 r2 (sizeOk_le q))
      | _ => first | exact nn e | exact nf e | first | exact nn e | exact nf e | cases e
    | tup a => induction y using T.casesOn with
      | tup b =>
        obtain ⟨q, rfl⟩ := if_inv (show (if sizeOk (a.length + b.length) then some (T.tup (a ++ b)) else none) = some t from e)
        obtain ⟨l1, vs, rfl, z1, p1, r1⟩ := hv
        obtain ⟨l2, ws, rfl, z2, p2, r2⟩ := hu
        exact hP (add_tup_ok I z1 z2 p1 p2 r1 r2 (sizeOk_le q))
      | _ => first | exact nn e | exact nf e | first | exact nn e | exact nf e | cases e
    | _ => first | exact nn e | exact nf e | first | exact nn e | exact nf e | cases e
  | Sub => induction x using T.casesOn with
    | int a => induction y using T.casesOn with
      | int b =>
        first | exact nn e | exact nf e | first | exact nn e | exact nf e | cases e
        obtain ⟨k1, rfl⟩ := hv
        obtain ⟨k2, rfl⟩ := hu
        exact hP (sub_int (PE.rep I ⟨_, rfl⟩))
      | _ => first | exact nn e | exact nf e | first | exact nn e | exact nf e | cases e
    | _ => first | exact nn e | exact nf e | first | exact nn e | exact nf e | cases e
  | Mult => induction x using T.casesOn with
    | int a => induction y using T.casesOn with
      | int b =>
        obtain ⟨q, rfl⟩ := if_inv (show (if intOk a && intOk b then some (T.int (a * b)) else none) = some t from e)
        obtain ⟨k1, rfl⟩ := hv
        obtain ⟨k2, rfl⟩ := hu
        have q := Bool.and_eq_true_iff.mp q
        exact hP (mul_int (PE.rep I ⟨_, rfl⟩) (mul_small (int_small q.1) (int_small q.2)))
      | _ => first | exact nn e | exact nf e | first | exact nn e | exact nf e | cases e
    | _ => first | exact nn e | exact nf e | first | exact nn e | exact nf e | cases e
  | FloorDiv => induction x using T.casesOn with
    | int a => induction y using T.casesOn with
      | int b =>
        obtain ⟨q, rfl⟩ := if_inv (show (if intOk a && intOk b && !decide (b = 0) then some (T.int (a.fdiv b)) else none) = some t from e)
        obtain ⟨k1, rfl⟩ := hv
        obtain ⟨k2, rfl⟩ := hu
        have q := Bool.and_eq_true_iff.mp q
        have q1 := Bool.and_eq_true_iff.mp q.1
        exact hP (floordiv_int (not_zero q.2) (PE.rep I ⟨_, rfl⟩) (.inl (PyProof.noPylong_small (fd_small (int_small q1.2)))))
      | _ => first | exact nn e | exact nf e | first | exact nn e | exact nf e | cases e
    | _ => first | exact nn e | exact nf e | first | exact nn e | exact nf e | cases e
  | Mod => induction x using T.casesOn with
    | int a => induction y using T.casesOn with
      | int b =>
        obtain ⟨q, rfl⟩ := if_inv (show (if !decide (b = 0) then some (T.int (a.fmod b)) else none) = some t from e)
        obtain ⟨k1, rfl⟩ := hv
        obtain ⟨k2, rfl⟩ := hu
        exact hP (mod_int (not_zero q) (PE.rep I ⟨_, rfl⟩))
      | _ => first | exact nn e | exact nf e | first | exact nn e | exact nf e | cases e
    | _ => first | exact nn e | exact nf e | first | exact nn e | exact nf e | cases e
  | _ => first | exact nn e | exact nf e | first | exact nn e | exact nf e | cases e
end
end Mine
end
section
set_option maxRecDepth 100000
set_option autoImplicit false
namespace Mine
open PySem PySem.W PyProof.Rows

section
variable {B : Base} {g : Gh} {σ : Sg} {A : Around} {s : Shared}

theorem eqAt_bytes (a b : Array UInt8) (t u : Tok) (h : a = b) : SeqAt.EqAt A s (.bytes a t) (.bytes b u) true := fun prog w E Q hq => by
  unfold eqBool
  refine wpAny_holding ?_
  refine wpAny_ite_split (fun _ => wpAny_bind (wpAny_rule (wpAny_pure hq))) (fun _ => ?_)
  refine wpAny_bind (show wpAny (model prog w) A (compareOp .Eq (.bytes a t) (.bytes b u)) _ E s from eq_bytes ?_)
  rw [h, beq_self_eq_true]
  exact wpAny_truthy_bool hq

theorem eqTs_get {f : T → T → Bool} : ∀ {a b : List T} (_ : eqTs f a b = true), a.length = b.length ∧ ∀ (i : Nat) (x y : T), a[i]? = some x → b[i]? = some y → f x y = true
  | [], [], _ => ⟨rfl, fun i x y e => by simp at e⟩
  | a :: x, b :: y, e => by
    have e := Bool.and_eq_true_iff.mp e
    obtain ⟨l, k⟩ := eqTs_get e.2
    refine ⟨by simp [l], fun i u v p q => ?_⟩
    cases i with
    | zero => simp only [List.getElem?_cons_zero, Option.some.injEq] at p q; rw [← p, ← q]; exact e.1
    | succ j => simp only [List.getElem?_cons_succ] at p q; exact k j u v p q
  | [], _ :: _, e => nf e
  | _ :: _, [], e => nf e

set_option tactic.hygienic false in
theorem getElem_of {vs : List Value} {j : Nat} (h : j < vs.toArray.size) {v : Value} (e : vs[j]? = some v) : vs.toArray[j] = v := by
  have : vs.toArray[j]? = some v := by simpa using e
  rw [Array.getElem?_eq_getElem h] at this
  exact Option.some.inj this
set_option tactic.hygienic false in
theorem range_all_true (n : Nat) : (List.range n).all (fun _ => true) = true := by simp

set_option tactic.hygienic false in
theorem leafEq_at {t u : T} {v w : Value} {A : Around} (e : leafEq t u = true) (x : Rep B g.Z s.heap t v) (y : Rep B g.Z s.heap u w) : SeqAt.EqAt A s v w true := by
  induction t using T.casesOn with
  | none => cases u with
    | none => rw [show v = .none from x, show w = .none from y]; exact SeqAt.EqAt.same _
    | _ => first | exact nn e | exact nf e | first | exact nn e | exact nf e | cases e
  | bool a => induction u using T.casesOn with
    | bool b => rw [show v = _ from x, show w = _ from y, beq_iff_eq.mp (show (a == b) = true from e)]; exact SeqAt.EqAt.same _
    | _ => first | exact nn e | exact nf e | first | exact nn e | exact nf e | cases e
  | int a => induction u using T.casesOn with
    | int b =>
      obtain ⟨k, rfl⟩ := x; obtain ⟨k2, rfl⟩ := y; have := of_decide_eq_true (show decide (a = b) = true from e); subst this
      have := SeqAt.EqAt.int_int (A := A) (s := s) a k a k2; rwa [beq_self_eq_true] at this
    | _ => first | exact nn e | exact nf e | first | exact nn e | exact nf e | cases e
  | str a => cases u with
    | str b =>
      obtain ⟨k, rfl⟩ := x; obtain ⟨k2, rfl⟩ := y; have := (sEq_iff _ _).mp (show sEq a b = true from e); subst this
      have := SeqAt.EqAt.str_str (A := A) (s := s) a k a k2; rwa [beq_self_eq_true] at this
    | _ => first | exact nn e | exact nf e | first | exact nn e | exact nf e | cases e
  | bytes a => induction u using T.casesOn with
    | bytes b => obtain ⟨k, rfl⟩ := x; obtain ⟨k2, rfl⟩ := y; have := of_decide_eq_true (show decide (a = b) = true from e); subst this; exact eqAt_bytes _ _ _ _ rfl
    | _ => first | exact nn e | exact nf e | first | exact nn e | exact nf e | cases e
  | _ => first | exact nn e | exact nf e | first | exact nn e | exact nf e | cases e
/-- a list or a tuple -/
noncomputable def SeqRep (B : Base) (g : Gh) (s : Shared) (k : Bool) (l : Addr) (vs : List Value) : Prop := match k with
  | true => PlainTup s.heap l vs.toArray
  | false => s.heap.PlainList l vs.toArray
set_option tactic.hygienic false in
theorem seqOf_rep {t : T} {k : Bool} {ts : List T} {v : Value} (e : seqOf t = some (k, ts)) (x : Rep B g.Z s.heap t v) : ∃ l vs, v = .ref l ∧ SeqRep B g s k l vs ∧ RepL B g.Z s.heap ts vs := by
  induction t using T.casesOn with
  | tup a => cases e; obtain ⟨l, vs, rfl, z, p, r⟩ := x; exact ⟨l, vs, rfl, p, r⟩
  | list a => cases e; obtain ⟨l, vs, rfl, z, p, r⟩ := x; exact ⟨l, vs, rfl, p, r⟩
  | _ => first | exact nn e | exact nf e | first | exact nn e | exact nf e | cases e
set_option tactic.hygienic false in
theorem eqT_at : ∀ (n : Nat) (t u : T) {v w : Value} {A : Around}, eqT n t u = true → Rep B g.Z s.heap t v → Rep B g.Z s.heap u w → A.units + n + 1 < cLine → SeqAt.EqAt A s v w true := by
  intro n
  induction n with
  | zero => intro t u v w A e x y hu; exact leafEq_at e x y
  | succ n ih =>
    intro t u v w A e x y hu
    unfold eqT at e
    induction h1 : seqOf t using Option.casesOn with
    | none => rw [h1] at e; exact leafEq_at e x y
    | some p =>
      obtain ⟨k, a⟩ := p
      induction h2 : seqOf u using Option.casesOn with
      | none => rw [h1, h2] at e; first | exact nn e | exact nf e | first | exact nn e | exact nf e | cases e
      | some p =>
        obtain ⟨k', b⟩ := p
        rw [h1, h2] at e
        have e : ((k == k') && eqTs (eqT n) a b) = true := e
        obtain ⟨ek1, e2⟩ := Bool.and_eq_true_iff.mp e
        have ek := beq_iff_eq.mp ek1
        subst ek
        obtain ⟨l1, vs, rfl, p1, r1⟩ := seqOf_rep h1 x
        obtain ⟨l2, ws, rfl, p2, r2⟩ := seqOf_rep h2 y
        obtain ⟨hl, hk⟩ := eqTs_get e2
        have q1 := r1.length; have q2 := r2.length
        by_cases hne : l1 = l2
        · rw [hne]; exact SeqAt.EqAt.same _
        refine SeqAt.EqAt.of_refs hne ?_
        have kid : ∀ (A' : Around) (_ : A'.units = A.units + 1) (j : Nat) (h1 : j < vs.toArray.size) (h2 : j < ws.toArray.size), SeqAt.EqAt A' s vs.toArray[j] ws.toArray[j] true := by
          intro A' hA j h1 h2
          have j1 : j < a.length := by simp only [List.size_toArray] at h1; omega
          have j2 : j < b.length := by simp only [List.size_toArray] at h2; omega
          obtain ⟨v1, e1, x1⟩ := r1.get (List.getElem?_eq_getElem j1)
          obtain ⟨v2, e2, x2⟩ := r2.get (List.getElem?_eq_getElem j2)
          rw [getElem_of h1 e1, getElem_of h2 e2]
          exact ih _ _ (hk j _ _ (List.getElem?_eq_getElem j1) (List.getElem?_eq_getElem j2)) x1 x2 (by rw [hA]; omega)
        induction k using Bool.casesOn with
        | true =>
          have p1 : PlainTup s.heap l1 vs.toArray := p1
          have p2 : PlainTup s.heap l2 ws.toArray := p2
          have := SeqAt.RcAt.tuples (A := A) (s := s) (items := vs.toArray) (items2 := ws.toArray) (e := fun _ => true) (l := l1) (b := l2) (let ⟨n, e⟩ := p1; ⟨_, e, rfl, n, rfl⟩) (let ⟨n, e⟩ := p2; ⟨_, e, rfl, n, rfl⟩) (by omega) (fun j h1 h2 => kid _ rfl j h1 h2)
          rw [range_all_true, Bool.true_and] at this
          rwa [show (vs.toArray.size == ws.toArray.size) = true by simp only [List.size_toArray, beq_iff_eq]; omega] at this
        | false =>
          have p1 : s.heap.PlainList l1 vs.toArray := p1
          have p2 : s.heap.PlainList l2 ws.toArray := p2
          have := SeqAt.RcAt.lists (A := A) (s := s) (items := vs.toArray) (items2 := ws.toArray) (e := fun _ => true) (l := l1) (b := l2) p1.isList p2.isList (by simp only [List.size_toArray]; omega) (by omega) (fun j h1 h2 => kid _ rfl j h1 h2)
          rwa [range_all_true] at this

/-- a comparison's answer: the heap as it was -/
noncomputable def Told (s : Shared) (r : Bool) (v : Value) (s' : Shared) : Prop := v = .bool r ∧ ∃ tk, s' = ⟨s.heap, s.gens, s.drawn, tk, s.os⟩
theorem told_here {r : Bool} {tk : Nat} : Told s r (.bool r) ⟨s.heap, s.gens, s.drawn, tk, s.os⟩ := ⟨rfl, tk, rfl⟩

set_option tactic.hygienic false in
theorem eqU_ok {a b : List T} (q : eqT 50 (.tup a) (.tup b) = true) {v u : Value} (hv' : Rep B g.Z s.heap (.tup a) v) (hu' : Rep B g.Z s.heap (.tup b) u) (hb : A.units + 100 < cLine) : wpAny (BM B) A (compareOp .Eq v u) (Told s true) no s := by
  obtain ⟨l1, vs, rfl, z1, p1, r1⟩ := hv'
  obtain ⟨l2, ws, rfl, z2, p2, r2⟩ := hu'
  obtain ⟨hl, hk⟩ := eqTs_get (f := eqT 49) q
  have q1 := r1.length; have q2 := r2.length
  refine SeqAt.eq_tupleAt (e := fun _ => true) (let ⟨n, e⟩ := p1; ⟨_, e, rfl, n, rfl⟩) (let ⟨n, e⟩ := p2; ⟨_, e, rfl, n, rfl⟩) (by omega) (fun j h1 h2 => ?_) ?_
  · have j1 : j < a.length := by simp only [List.size_toArray] at h1; omega
    have j2 : j < b.length := by simp only [List.size_toArray] at h2; omega
    obtain ⟨v1, e1, x1⟩ := r1.get (List.getElem?_eq_getElem j1)
    obtain ⟨v2, e2, x2⟩ := r2.get (List.getElem?_eq_getElem j2)
    rw [getElem_of h1 e1, getElem_of h2 e2]
    exact eqT_at 49 _ _ (hk j _ _ (List.getElem?_eq_getElem j1) (List.getElem?_eq_getElem j2)) x1 x2 (by show A.units + 1 + 49 + 1 < cLine; omega)
  · rw [range_all_true, Bool.true_and, show (vs.toArray.size == ws.toArray.size) = true by simp only [List.size_toArray, beq_iff_eq]; omega]
    exact told_here
set_option tactic.hygienic false in
theorem eqL_ok {a : List T} {v u : Value} (hv : Sees B g s.heap (.list a) v) (hu : Sees B g s.heap (.list []) u) (hb : A.units + 100 < cLine) : wpAny (BM B) A (compareOp .Eq v u) (Told s a.isEmpty) no s := by
  obtain ⟨l1, vs, rfl, p1, r1⟩ := hv
  obtain ⟨l2, ws, rfl, p2, r2⟩ := hu
  rw [show ws = [] from r2] at p2
  have q1 := r1.length
  induction a using List.casesOn with
  | nil =>
    rw [show vs = [] from r1] at p1
    exact SeqAt.eq_listAt (e := fun _ => true) p1.isList p2.isList rfl (by omega) (fun j h1 => by simp at h1) told_here
  | cons t a =>
    refine SeqAt.eq_list_lengthsAt p1.isList p2.isList ?_ (by omega) told_here
    simp only [List.size_toArray, q1]; rfl
set_option tactic.hygienic false in
theorem neL_ok {a : List T} {v u : Value} (hv : Sees B g s.heap (.list a) v) (hu : Sees B g s.heap (.list []) u) (hb : A.units + 100 < cLine) : wpAny (BM B) A (compareOp .NotEq v u) (Told s !a.isEmpty) no s := by
  obtain ⟨l1, vs, rfl, p1, r1⟩ := hv
  obtain ⟨l2, ws, rfl, p2, r2⟩ := hu
  rw [show ws = [] from r2] at p2
  have q1 := r1.length
  induction a using List.casesOn with
  | nil =>
    rw [show vs = [] from r1] at p1
    exact SeqAt.RcNeAt.lists (A := A) (e := fun _ => true) p1.isList p2.isList rfl (by omega) (fun j h1 => by simp at h1) _ _ _ _ told_here
  | cons t a =>
    refine SeqAt.RcNeAt.lists_lengths p1.isList p2.isList ?_ (by omega) _ _ _ _ told_here
    simp only [List.size_toArray, q1]; rfl

set_option tactic.hygienic false in
theorem eqV_ok {x y : T} {r : Bool} (e : eqV x y = some r) {v u : Value} (hv : Sees B g s.heap x v) (hu : Sees B g s.heap y u) (hb : A.units + 100 < cLine) : wpAny (BM B) A (compareOp .Eq v u) (Told s r) no s := by
  refine pgen fun P hP => ?_
  induction x using T.casesOn with
  | int a => induction y using T.casesOn with
    | int b =>
      cases e; obtain ⟨k, rfl⟩ := hv; obtain ⟨k2, rfl⟩ := hu
      refine hP (PyProof.Rows.eq_int ?_)
      rw [show (a == b) = decide (a = b) from rfl]; exact told_here
    | _ => first | exact nn e | exact nf e | first | exact nn e | exact nf e | cases e
  | str a => cases y with
    | str b =>
      cases e; obtain ⟨k, rfl⟩ := hv; obtain ⟨k2, rfl⟩ := hu
      refine hP (PyProof.Rows.eq_str ?_)
      rw [← sEq_beq]; exact told_here
    | _ => first | exact nn e | exact nf e | first | exact nn e | exact nf e | cases e
  | none => cases y with
    | none => cases e; rw [show v = .none from hv, show u = .none from hu] at hP; exact hP (EqNone.eq_none_none told_here)
    | _ => first | exact nn e | exact nf e | first | exact nn e | exact nf e | cases e
  | list a => cases y with
    | list b => induction b using List.casesOn with
      | nil => cases e; exact hP (eqL_ok hv hu hb)
      | cons _ _ => first | exact nn e | exact nf e | first | exact nn e | exact nf e | cases e
    | _ => first | exact nn e | exact nf e | first | exact nn e | exact nf e | cases e
  | tup a => induction y using T.casesOn with
    | tup b =>
      have e : (match eqT 50 (.tup a) (.tup b) with
        | true => some true
        | false => none) = some r := e
      induction q : eqT 50 (.tup a) (.tup b) using Bool.casesOn with
      | false => rw [q] at e; first | exact nn e | exact nf e | first | exact nn e | exact nf e | cases e
      | true => rw [q] at e; cases e; exact hP (eqU_ok q hv hu hb)
    | _ => first | exact nn e | exact nf e | first | exact nn e | exact nf e | cases e
  | _ => first | exact nn e | exact nf e | first | exact nn e | exact nf e | cases e
set_option tactic.hygienic false in
theorem neV_ok {x y : T} {r : Bool} (e : neV x y = some r) {v u : Value} (hv : Sees B g s.heap x v) (hu : Sees B g s.heap y u) (hb : A.units + 100 < cLine) : wpAny (BM B) A (compareOp .NotEq v u) (Told s r) no s := by
  refine pgen fun P hP => ?_
  induction x using T.casesOn with
  | int a => induction y using T.casesOn with
    | int b =>
      cases e; obtain ⟨k, rfl⟩ := hv; obtain ⟨k2, rfl⟩ := hu
      refine hP (PyProof.Rows.ne_int ?_)
      rw [show (a != b) = !(decide (a = b)) from rfl]; exact told_here
    | _ => first | exact nn e | exact nf e | first | exact nn e | exact nf e | cases e
  | str a => cases y with
    | str b =>
      cases e; obtain ⟨k, rfl⟩ := hv; obtain ⟨k2, rfl⟩ := hu
      refine hP (PyProof.Rows.ne_str ?_)
      rw [show (a != b) = !(a == b) from rfl, ← sEq_beq]; exact told_here
    | _ => first | exact nn e | exact nf e | first | exact nn e | exact nf e | cases e
  | list a => cases y with
    | list b => induction b using List.casesOn with
      | nil => cases e; exact hP (neL_ok hv hu hb)
      | cons _ _ => first | exact nn e | exact nf e | first | exact nn e | exact nf e | cases e
    | _ => first | exact nn e | exact nf e | first | exact nn e | exact nf e | cases e
  | _ => first | exact nn e | exact nf e | first | exact nn e | exact nf e | cases e
end
end Mine
end
section
set_option maxRecDepth 100000
set_option autoImplicit false
namespace Mine
open PySem PySem.W PyProof.Rows

set_option tactic.hygienic false in
theorem allInt_str (kvs : List (Str × Value)) (h : allInt (kvs.map (fun p => Key.s p.1)) = true) : kvs = [] := by cases kvs with | nil => rfl | cons p r => simp [allInt] at h
set_option tactic.hygienic false in
theorem allStr_int (kvs : List (Int × Value)) (h : allStr (kvs.map (fun p => Key.i p.1)) = true) : kvs = [] := by cases kvs with | nil => rfl | cons p r => simp [allStr] at h
set_option tactic.hygienic false in
theorem dict_nil {K K' : Type} [DecidableEq K] [DecidableEq K'] {prog : Program} {w : World} {knd : KeyKind prog w K} {knd' : KeyKind prog w K'} {h : Heap} {a : Addr} (x : h.DictOf knd a []) : h.DictOf knd' a [] := by
  obtain ⟨o, es, ep, ho, hx, hd, hk, hp, hn⟩ := x
  have : es = #[] := by
    induction hq : es.toList using List.casesOn with
    | nil => exact Array.toList_eq_nil_iff.mp hq
    | cons e r => rw [hq] at hp; cases hp
  subst this
  exact ⟨o, #[], ep, ho, hx, hd, fun e he => by simp at he, .nil, List.nodup_nil⟩
set_option tactic.hygienic false in
theorem dict_int {B : Base} {h : Heap} {a : Addr} {ks : List Key} {vs : List Value} (x : DictIs B h a ks vs) (e : allInt ks = true) :
    ∃ kvs : List (Int × Value), h.DictOf (intKind B.prog B.w) a kvs ∧ ks = kvs.map (fun p => Key.i p.1) ∧ vs = kvs.map (·.2) := by
  rcases x.2 with x | ⟨kvs, d, rfl, rfl⟩
  · exact x
  · have := allInt_str kvs e; subst this; exact ⟨[], dict_nil d, rfl, rfl⟩
set_option tactic.hygienic false in
theorem dict_str {B : Base} {h : Heap} {a : Addr} {ks : List Key} {vs : List Value} (x : DictIs B h a ks vs) (e : allStr ks = true) :
    ∃ kvs : List (Str × Value), h.DictOf (strKind B.prog B.w) a kvs ∧ ks = kvs.map (fun p => Key.s p.1) ∧ vs = kvs.map (·.2) := by
  rcases x.2 with ⟨kvs, d, rfl, rfl⟩ | x
  · have := allStr_int kvs e; subst this; exact ⟨[], dict_nil d, rfl, rfl⟩
  · exact x

theorem lkK_int (n : Int) : ∀ kvs : List (Int × Value), lkK (.i n) (kvs.map (fun p => Key.i p.1)) (kvs.map (·.2)) = valueAt kvs n
  | [] => rfl
  | (m, v) :: r => by
    simp only [List.map_cons, lkK_cons, keq_i, valueAt, List.find?_cons]
    by_cases h : n = m
    · subst h; simp
    · have : ¬ m = n := fun e => h e.symm
      simp only [h, this, decide_false]
      exact lkK_int n r
theorem lkK_str (n : Str) : ∀ kvs : List (Str × Value), lkK (.s n) (kvs.map (fun p => Key.s p.1)) (kvs.map (·.2)) = valueAt kvs n
  | [] => rfl
  | (m, v) :: r => by
    simp only [List.map_cons, lkK_cons, keq_s, valueAt, List.find?_cons]
    induction h : sEq n m using Bool.casesOn with
    | true => have := (sEq_iff _ _).mp h; subst this; simp
    | false =>
      have : ¬ m = n := fun e => sEq_false h e.symm
      simp only [this, decide_false]
      exact lkK_str n r
theorem putK_int (n : Int) (v : Value) : ∀ (kvs : List (Int × Value)) (_ : (kvs.map (·.1)).Nodup), putK (.i n) v (kvs.map (fun p => Key.i p.1)) (kvs.map (·.2)) = ((stored kvs n v).map (fun p => Key.i p.1), (stored kvs n v).map (·.2))
  | [], _ => rfl
  | (m, u) :: r, hn => by
    simp only [List.map_cons, List.nodup_cons] at hn
    simp only [List.map_cons, putK_cons, keq_i]
    by_cases h : n = m
    · subst h
      have e : (r.map fun kv => if kv.1 = n then (kv.1, v) else kv) = r := map_store_of_not_mem r n v hn.1
      simp [stored, e]
    · have h' : ¬ m = n := fun e => h e.symm
      have ih := putK_int n v r hn.2
      simp only [h, decide_false, ih]
      unfold stored
      simp only [List.any_cons, h', decide_false, Bool.false_or]
      split <;> simp [h']
theorem putK_str (n : Str) (v : Value) : ∀ (kvs : List (Str × Value)) (_ : (kvs.map (·.1)).Nodup), putK (.s n) v (kvs.map (fun p => Key.s p.1)) (kvs.map (·.2)) = ((stored kvs n v).map (fun p => Key.s p.1), (stored kvs n v).map (·.2))
  | [], _ => rfl
  | (m, u) :: r, hn => by
    simp only [List.map_cons, List.nodup_cons] at hn
    simp only [List.map_cons, putK_cons, keq_s]
    induction h : sEq n m using Bool.casesOn with
    | true =>
      have := (sEq_iff _ _).mp h; subst this
      have e : (r.map fun kv => if kv.1 = n then (kv.1, v) else kv) = r := map_store_of_not_mem r n v hn.1
      simp [stored, e]
    | false =>
      have h' : ¬ m = n := fun e => sEq_false h e.symm
      have ih := putK_str n v r hn.2
      simp only [ih]
      unfold stored
      simp only [List.any_cons, h', decide_false, Bool.false_or]
      split <;> simp [h']
set_option tactic.hygienic false in
theorem DictOf.nodup {K : Type} [DecidableEq K] {prog : Program} {w : World} {knd : KeyKind prog w K} {h : Heap} {a : Addr} {kvs : List (K × Value)} (x : h.DictOf knd a kvs) : (kvs.map (·.1)).Nodup := by obtain ⟨_, _, _, _, _, _, _, _, n⟩ := x; exact n

section
variable {B : Base} {Z : Addr → Prop} {h : Heap}
theorem lkK_rep (k : Key) : ∀ {ks : List Key} {ts : List T} {vs : List Value} (_ : RepL B Z h ts vs), (∀ t, lkK k ks ts = some t → ∃ v, lkK k ks vs = some v ∧ Rep B Z h t v) ∧ (lkK k ks ts = none → lkK k ks vs = none)
  | [], ts, vs, x => by cases ts <;> cases vs <;> exact ⟨fun _ e => nn e, fun _ => rfl⟩
  | q :: ks, [], vs, x => by rw [show vs = [] from x]; exact ⟨fun _ e => nn e, fun _ => rfl⟩
  | q :: ks, t :: ts, _, xx => by
    obtain ⟨v, r, e, x, y⟩ := xx
    subst e
    rw [lkK_cons, lkK_cons]
    cases k.eq q with
    | true => exact ⟨fun t' e => by cases e; exact ⟨v, rfl, x⟩, fun e => by cases e⟩
    | false => exact lkK_rep k y
theorem putK_rep (k : Key) {t : T} {v : Value} (x : Rep B Z h t v) : ∀ {ks : List Key} {ts : List T} {vs : List Value} (_ : RepL B Z h ts vs), (putK k t ks ts).1 = (putK k v ks vs).1 ∧ RepL B Z h (putK k t ks ts).2 (putK k v ks vs).2
  | [], ts, vs, y => by cases ts <;> cases vs <;> exact ⟨rfl, v, [], rfl, x, rfl⟩
  | q :: ks, [], vs, y => by rw [show vs = [] from y]; exact ⟨rfl, v, [], rfl, x, rfl⟩
  | q :: ks, u :: ts, _, xx => by
    obtain ⟨w, r, e, y, z⟩ := xx
    subst e
    rw [putK_cons, putK_cons]
    cases k.eq q with
    | true => exact ⟨rfl, v, r, rfl, x, z⟩
    | false => exact ⟨by simp only [(putK_rep k x z).1], w, _, rfl, y, (putK_rep k x z).2⟩
end
/-- a key's value -/
noncomputable def KeyIs : Key → Value → Prop
  | .i n, v => ∃ k, v = .int n k
  | .s x, v => ∃ k, v = .str x k
set_option tactic.hygienic false in
theorem keyOf_is {B : Base} {Z : Addr → Prop} {h : Heap} {t : T} {k : Key} (e : keyOf t = some k) {v : Value} (x : Rep B Z h t v) : KeyIs k v := by
  cases t <;> first | (cases e; exact x) | first | exact nn e | exact nf e | first | exact nn e | exact nf e | cases e
section
variable {B : Base} {g : Gh} {σ : Sg} {A : Around} {s : Shared}
set_option tactic.hygienic false in
theorem kindOk_int {a : Addr} {ks : List Key} {vs : List Value} (x : DictIs B s.heap a ks vs) {n : Int} (hk : kindOk (.i n) ks = true) : allInt ks = true := by
  have all : ∀ l : List (Int × Value), allInt (l.map (fun p => Key.i p.1)) = true := fun l => by induction l with | nil => rfl | cons p r ih => exact ih
  obtain ⟨_, x⟩ := x
  rcases x with ⟨kvs, _, rfl, _⟩ | ⟨kvs, _, rfl, _⟩
  · exact all kvs
  · induction kvs using List.casesOn with
    | nil => rfl
    | cons p r => cases hk
set_option tactic.hygienic false in
theorem kindOk_str {a : Addr} {ks : List Key} {vs : List Value} (x : DictIs B s.heap a ks vs) {n : Str} (hk : kindOk (.s n) ks = true) : allStr ks = true := by
  have all : ∀ l : List (Str × Value), allStr (l.map (fun p => Key.s p.1)) = true := fun l => by induction l with | nil => rfl | cons p r ih => exact ih
  obtain ⟨_, x⟩ := x
  rcases x with ⟨kvs, _, rfl, _⟩ | ⟨kvs, _, rfl, _⟩
  · induction kvs using List.casesOn with
    | nil => rfl
    | cons p r => cases hk
  · exact all kvs
/-  the three ways to ask a dict by a key -/
set_option tactic.hygienic false in
theorem ask_dict {a : Addr} {ks : List Key} {vs : List Value} (x : DictIs B s.heap a ks vs) {k : Key} (hk : kindOk k ks = true) {kv : Value} (y : KeyIs k kv) :
    ∃ (K : Type) (_ : DecidableEq K) (knd : KeyKind B.prog B.w K) (k' : K) (kvs : List (K × Value)), knd.is k' kv = true ∧ s.heap.DictOf knd a kvs ∧ valueAt kvs k' = lkK k ks vs := by
  cases k with
  | i n =>
    obtain ⟨kvs, d, rfl, rfl⟩ := dict_int x (kindOk_int x hk)
    obtain ⟨t, rfl⟩ := y
    exact ⟨Int, inferInstance, intKind _ _, n, kvs, intKind_is _ _ _ _, d, (lkK_int n kvs).symm⟩
  | s n =>
    obtain ⟨kvs, d, rfl, rfl⟩ := dict_str x (kindOk_str x hk)
    obtain ⟨t, rfl⟩ := y
    exact ⟨Str, inferInstance, strKind _ _, n, kvs, strKind_is _ _ _ _, d, (lkK_str n kvs).symm⟩
theorem lkD_some {α : Type} {k : Key} {ks : List Key} {ts : List α} {r : Option α} (e : lkD k ks ts = some r) : kindOk k ks = true ∧ lkK k ks ts = r := by
  unfold lkD at e
  split at e
  · rename_i q; cases e; exact ⟨q, rfl⟩
  · first | exact nn e | exact nf e | first | exact nn e | exact nf e | cases e
set_option tactic.hygienic false in
theorem same_some {x y : T} {B : Base} {Z : Addr → Prop} {h : Heap} {k : Key} {ks : List Key} {ts : List T} {vs : List Value} (r : RepL B Z h ts vs) : (lkK k ks vs).isSome = (lkK k ks ts).isSome := by
  have := lkK_rep (k := k) (ks := ks) r
  induction q : lkK k ks ts using Option.casesOn with
  | none => rw [this.2 q]; rfl
  | some t => obtain ⟨v, e, _⟩ := this.1 t q; rw [e]; rfl

set_option tactic.hygienic false in
theorem inT_ok {neg : Bool} {x y : T} {r : Bool} (e : inT x y = some r) {v u : Value} (hv : Sees B g s.heap x v) (hu : Sees B g s.heap y u) :
    wpAny (BM B) A (compareOp (if neg then .NotIn else .In) v u) (Told s (if neg then !r else r)) no s := by
  refine pgen fun P hP => ?_
  induction y using T.casesOn with
  | list ts => induction x using T.casesOn with
    | int n =>
      have e : (match T.int n, intsOf ts with
        | .int n, some l => some (memInts n l)
        | _, _ => none) = some r := e
      obtain ⟨a, vs, rfl, p, q⟩ := hu
      induction hl : intsOf ts using Option.casesOn with
      | none => rw [hl] at e; first | exact nn e | exact nf e | first | exact nn e | exact nf e | cases e
      | some l =>
        rw [hl] at e
        first | exact nn e | exact nf e | first | exact nn e | exact nf e | cases e
        obtain ⟨k, rfl⟩ := hv
        refine hP ?_
        rw [memInts_any]
        first | exact nn neg | exact nf neg | first | exact nn neg | exact nf neg | cases neg
        · exact in_list_ints p.isList (ints_of q hl) told_here
        · exact notin_list_ints p.isList (ints_of q hl) told_here
    | _ => first | exact nn e | exact nf e | first | exact nn e | exact nf e | cases e
  | tup ts =>
    have hu : Rep B g.Z s.heap (.tup ts) u := hu
    obtain ⟨a, vs, rfl, z, p, q⟩ := hu
    induction x using T.casesOn with
    | int n =>
      obtain ⟨k, rfl⟩ := hv
      obtain ⟨l, hl, rfl⟩ := Option.map_eq_some_iff.mp e
      refine hP ?_
      rw [memInts_any]
      first | exact nn neg | exact nf neg | first | exact nn neg | exact nf neg | cases neg
      · exact in_tuple_ints p.isTup (ints_of q hl) told_here
      · exact notin_tuple_ints p.isTup (ints_of q hl) told_here
    | str n =>
      obtain ⟨k, rfl⟩ := hv
      obtain ⟨l, hl, rfl⟩ := Option.map_eq_some_iff.mp e
      refine hP ?_
      rw [memStrs_any]
      first | exact nn neg | exact nf neg | first | exact nn neg | exact nf neg | cases neg
      · exact in_tuple_strs p.isTup (strs_of q hl) told_here
      · exact notin_tuple_strs p.isTup (strs_of q hl) told_here
    | _ => first | exact nn e | exact nf e | first | exact nn e | exact nf e | cases e
  | dict ks ts =>
    obtain ⟨a, vs, rfl, p, q⟩ := hu
    have e : (match keyOf x with
      | some k => (lkD k ks ts).map (·.isSome)
      | none => none) = some r := e
    induction hk : keyOf x using Option.casesOn with
    | none => rw [hk] at e; first | exact nn e | exact nf e | first | exact nn e | exact nf e | cases e
    | some k =>
      rw [hk] at e
      obtain ⟨w, hw, rfl⟩ := Option.map_eq_some_iff.mp e
      obtain ⟨ok, rfl⟩ := lkD_some hw
      have hv' : KeyIs k v := by
        cases x <;> first | (cases hk; done) | exact keyOf_is (B := B) (Z := g.Z) (h := s.heap) hk hv
      obtain ⟨K, _, knd, k', kvs, h1, h2, h3⟩ := ask_dict p ok hv'
      refine hP ?_
      rw [← same_some (x := x) (y := x) q, ← h3]
      first | exact nn neg | exact nf neg | first | exact nn neg | exact nf neg | cases neg
      · exact wpAny_in_of h1 p.1 h2.mapOf told_here
      · exact wpAny_notIn_of h1 p.1 h2.mapOf told_here
  | str b => cases x with
    | str a =>
      have e : (match a.cps.toList with
        | [c] => some (memN c b.cps.toList)
        | _ => none) = some r := e
      induction hc : a.cps.toList using List.casesOn with
      | nil => rw [hc] at e; first | exact nn e | exact nf e | first | exact nn e | exact nf e | cases e
      | cons c l => induction l using List.casesOn with
        | cons _ _ => rw [hc] at e; first | exact nn e | exact nf e | first | exact nn e | exact nf e | cases e
        | nil =>
          rw [hc] at e
          first | exact nn e | exact nf e | first | exact nn e | exact nf e | cases e
          obtain ⟨k, rfl⟩ := hv
          have hu : Rep B g.Z s.heap (.str b) u := hu
          obtain ⟨k2, rfl⟩ := hu
          have ea : a = ⟨#[c]⟩ := by obtain ⟨cps⟩ := a; simp only at hc; congr 1; exact Array.ext' hc
          subst ea
          refine hP ?_
          rw [memN_mem]
          first | exact nn neg | exact nf neg | first | exact nn neg | exact nf neg | cases neg
          · refine PyProof.Rows.in_str ?_
            rw [StrLaws.found_one]; exact told_here
          · refine PyProof.Rows.notIn_str ?_
            rw [StrLaws.found_one]; exact told_here
    | _ => first | exact nn e | exact nf e | first | exact nn e | exact nf e | cases e
  | _ => first | exact nn e | exact nf e | first | exact nn e | exact nf e | cases e

/-  both sides seen -/
set_option tactic.hygienic false in
theorem two_inv {f : T → T → Option Bool} {o1 o2 : Option T} {r : Bool} (e : (match o1, o2 with
    | some x, some y => f x y
    | _, _ => none) = some r) : ∃ x y, o1 = some x ∧ o2 = some y ∧ f x y = some r := by
  induction o1 using Option.casesOn with
  | none => first | exact nn e | exact nf e | first | exact nn e | exact nf e | cases e
  | some x => induction o2 using Option.casesOn with
    | none => first | exact nn e | exact nf e | first | exact nn e | exact nf e | cases e
    | some y => exact ⟨x, y, rfl, rfl, e⟩
set_option tactic.hygienic false in
theorem int2_inv {f : Int → Int → Bool} {a b : AV} {r : Bool} (e : (match a, b with
    | .t (.int x), .t (.int y) => some (f x y)
    | _, _ => none) = some r) : ∃ x y, a = .t (.int x) ∧ b = .t (.int y) ∧ f x y = r := by
  induction a using AV.casesOn with
  | own => first | exact nn e | exact nf e | first | exact nn e | exact nf e | cases e
  | t x => induction x using T.casesOn with
    | int x => induction b using AV.casesOn with
      | own => first | exact nn e | exact nf e | first | exact nn e | exact nf e | cases e
      | t y => induction y using T.casesOn with
        | int y => cases e; exact ⟨x, y, rfl, rfl, rfl⟩
        | _ => first | exact nn e | exact nf e | first | exact nn e | exact nf e | cases e
    | _ => first | exact nn e | exact nf e | first | exact nn e | exact nf e | cases e

set_option tactic.hygienic false in
theorem cmpA_ok (I : Inv B g σ s.heap) {op : CmpOp} {a b : AV} {r : Bool} (e : cmpA op σ a b = some r) {v u : Value} (hv : AVal B g s.heap σ a v) (hu : AVal B g s.heap σ b u) (hb : A.units + 100 < cLine) :
    wpAny (BM B) A (compareOp op v u) (Told s r) no s := by
  have none_is : ∀ {b : AV} {u : Value}, AVal B g s.heap σ b u → isNoneA b = true → u = .none := fun {b u} hu q => by
    induction b using AV.casesOn with
    | t x => cases x <;> first | exact hu | first | exact nn q | exact nf q | first | exact nn q | exact nf q | cases q
    | own i => first | exact nn q | exact nf q | first | exact nn q | exact nf q | cases q
  have plain : ∀ {a : AV} {v : Value}, AVal B g s.heap σ a v → isBiA a = false → plainIs v .none = true ∧ (v == .none) = isNoneA a := fun {a v} hv q => by
    induction a using AV.casesOn with
    | own i => rw [hv.2]; exact ⟨rfl, rfl⟩
    | t x =>
      induction x using T.casesOn with
      | bi b => first | exact nn q | exact nf q | first | exact nn q | exact nf q | cases q
      | none => rw [show v = _ from hv]; exact ⟨rfl, rfl⟩
      | bool b => rw [show v = _ from hv]; exact ⟨rfl, rfl⟩
      | int n => obtain ⟨k, rfl⟩ := hv; exact ⟨rfl, rfl⟩
      | str n => obtain ⟨k, rfl⟩ := hv; exact ⟨rfl, rfl⟩
      | bytes n => obtain ⟨k, rfl⟩ := hv; exact ⟨rfl, rfl⟩
      | fn n => rw [show v = _ from hv]; exact ⟨rfl, rfl⟩
      | cls n => rw [show v = _ from hv]; exact ⟨rfl, rfl⟩
      | list n => obtain ⟨k, vs, rfl, _⟩ := hv; exact ⟨rfl, rfl⟩
      | tup n => obtain ⟨k, vs, rfl, _⟩ := hv; exact ⟨rfl, rfl⟩
      | dict n m => obtain ⟨k, vs, rfl, _⟩ := hv; exact ⟨rfl, rfl⟩
      | inst c n m => obtain ⟨k, d, vs, rfl, _⟩ := hv; exact ⟨rfl, rfl⟩
  cases op with
  | Is =>
    obtain ⟨q, rfl⟩ := if_inv (show (if isNoneA b && !isBiA a then some (isNoneA a) else none) = some r from e)
    have q := Bool.and_eq_true_iff.mp q
    have pl := plain hv (Bool.not_eq_true' _ ▸ q.2)
    rw [none_is hu q.1]
    refine wpAny_is_plain pl.1 ?_
    rw [pl.2]; exact told_here
  | IsNot =>
    obtain ⟨q, rfl⟩ := if_inv (show (if isNoneA b && !isBiA a then some !(isNoneA a) else none) = some r from e)
    have q := Bool.and_eq_true_iff.mp q
    have pl := plain hv (Bool.not_eq_true' _ ▸ q.2)
    rw [none_is hu q.1]
    refine wpAny_isNot_plain pl.1 ?_
    rw [pl.2]; exact told_here
  | Eq =>
    obtain ⟨x, y, hx, hy, e⟩ := two_inv (f := eqV) e
    exact eqV_ok e (look_ok I hv hx) (look_ok I hu hy) hb
  | NotEq =>
    obtain ⟨x, y, hx, hy, e⟩ := two_inv (f := neV) e
    exact neV_ok e (look_ok I hv hx) (look_ok I hu hy) hb
  | In =>
    obtain ⟨x, y, hx, hy, e⟩ := two_inv (f := inT) e
    exact inT_ok (neg := false) e (look_ok I hv hx) (look_ok I hu hy)
  | NotIn =>
    obtain ⟨x, y, hx, hy, e⟩ := two_inv (f := fun x y => (inT x y).map (!·)) e
    obtain ⟨r', hr, rfl⟩ := Option.map_eq_some_iff.mp e
    exact inT_ok (neg := true) hr (look_ok I hv hx) (look_ok I hu hy)
  | Lt =>
    obtain ⟨x, y, rfl, rfl, rfl⟩ := int2_inv (f := fun x y => decide (x < y)) e
    obtain ⟨k, rfl⟩ := hv
    obtain ⟨k2, rfl⟩ := hu
    exact PyProof.Rows.lt_int told_here
  | LtE =>
    obtain ⟨x, y, rfl, rfl, rfl⟩ := int2_inv (f := fun x y => decide (x ≤ y)) e
    obtain ⟨k, rfl⟩ := hv
    obtain ⟨k2, rfl⟩ := hu
    exact PyProof.Rows.le_int told_here
  | Gt =>
    obtain ⟨x, y, rfl, rfl, rfl⟩ := int2_inv (f := fun x y => decide (y < x)) e
    obtain ⟨k, rfl⟩ := hv
    obtain ⟨k2, rfl⟩ := hu
    exact PyProof.Rows.gt_int told_here
  | GtE =>
    obtain ⟨x, y, rfl, rfl, rfl⟩ := int2_inv (f := fun x y => decide (y ≤ x)) e
    obtain ⟨k, rfl⟩ := hv
    obtain ⟨k2, rfl⟩ := hu
    exact PyProof.Rows.ge_int told_here

theorem truthyT_ok {t : T} {b : Bool} (e : truthyT t = some b) {v : Value} (hv : Sees B g s.heap t v) :
    wpAny (BM B) A (truthy v) (fun r s' => r = b ∧ ∃ tk, s' = ⟨s.heap, s.gens, s.drawn, tk, s.os⟩) no s := by
  unfold truthyT at e
  split at e
  · cases e; rw [show v = .none from hv]; exact truthy_none ⟨rfl, _, rfl⟩
  · cases e; rw [show v = _ from hv]; exact wpAny_truthy_bool ⟨rfl, _, rfl⟩
  · rename_i ts
    split at e
    · rename_i hz
      first | exact nn e | exact nf e | first | exact nn e | exact nf e | cases e
      obtain ⟨a, vs, rfl, p, q⟩ := hv
      have h1 := q.length
      have h2 := sizeOk_le hz
      refine wpAny_truthy_list p.isList ?_ ⟨?_, _, rfl⟩
      · simp only [List.size_toArray]; omega
      · induction ts using List.casesOn with
        | nil => rw [show vs = [] from q]; rfl
        | cons t r => obtain ⟨v, r', rfl, _⟩ := q; rfl
    · first | exact nn e | exact nf e | first | exact nn e | exact nf e | cases e
  · rename_i x
    split at e
    · rename_i hz
      first | exact nn e | exact nf e | first | exact nn e | exact nf e | cases e
      have hv : Rep B g.Z s.heap (.str x) v := hv
      obtain ⟨k, rfl⟩ := hv
      have h2 := strOk_le hz
      refine P.truthy_str (by omega) ⟨?_, _, rfl⟩
      cases x; rename_i c
      simp only [Str.length]
      induction hc : c.toList using List.casesOn with
      | nil => have : c = #[] := Array.toList_eq_nil_iff.mp hc; subst this; rfl
      | cons y r =>
        have : c.size ≠ 0 := by rw [← Array.length_toList, hc]; simp
        have : ((c.size : Int) != 0) = true := by simp; exact fun e => this (by rw [e]; rfl)
        simp [this]
    · first | exact nn e | exact nf e | first | exact nn e | exact nf e | cases e
  · first | exact nn e | exact nf e | first | exact nn e | exact nf e | cases e
end
end Mine
end
section
set_option maxRecDepth 100000
set_option autoImplicit false
namespace Mine
open PySem PySem.W PyProof.Rows

/-- what a def's object says -/
structure FnOk (B : Base) (f : FN) (o : Obj) (fd : FuncData) : Prop where
  at_ : B.h0.get? (B.fa f) = some o
  data : o.data = .func fd
  codeR : B.h0.CodeRec fd.code fd.qualname
  body : fd.body = .stmts f.body
  clo : fd.closure = []
  glob : fd.globals = mainGlobals
  bui : fd.builtins = builtinsNs
  names : fd.scope.names = f.names
  kind : fd.scope.kind = .function
  co : fd.scope.isCoroutine = false
  gen : fd.scope.isGenerator = false
  po : fd.params.posonlyargs = []
  args : fd.params.args.map (·.arg) = f.params
  kwo : fd.params.kwonlyargs = []
  va : fd.params.vararg = none
  kwa : fd.params.kwarg = none
  dflt : (f.dflts = [] ∧ fd.defaults = .none) ∨ ∃ T o items n, fd.defaults = .ref T ∧ B.h0.get? T = some o ∧ o.data = .seq items n ∧ ∀ Z h, RepL B Z h f.dflts items.toList
/-- isinstance, as the written part has it -/
structure IsFacts (B : Base) : Prop where
  cc : ∀ d c, kitOne B.K (.ref (B.ca d)) (.ref (B.ca c)) = some (decide (d = c))
  tc : ∀ c, ∀ T ∈ ["NoneType", "bool", "int", "str", "tuple", "list", "dict"], kitOne B.K (.type T) (.ref (B.ca c)) = some false
  cb : ∀ d, ∀ T ∈ ["bool", "int", "list", "dict"], kitOne B.K (.ref (B.ca d)) (.type T) = some false
  tb : ∀ T ∈ ["NoneType", "bool", "int", "str", "tuple", "list", "dict"], ∀ U ∈ ["bool", "int", "list", "dict"], kitOne B.K (.type T) (.type U) = some (T == U || (T == "bool" && U == "int"))
  own : ∀ d, plainGet B.K (B.ca d) "__class__" = true ∧ hasDictIn B.K (B.ca d) = true ∧ findIn B.K (.ref (B.ca d)) "__class__" = some (some (.builtin "object.__class__")) ∧ mroIn B.K (B.ca d) (.type "object") = some true
  get : specialIn B.K (.builtin "object.__class__") "__get__" = some (some (.builtin "getset_descriptor.__get__")) ∧ takesIn B.K (.builtin "object.__class__") = some true

/-- what the written part of the world must say -/
structure Facts (B : Base) : Prop where
  kin : B.K.In B.h0
  glob : ∃ mg mb, B.h0.Ns mainGlobals mg ∧ B.h0.Ns builtinsNs mb ∧ ∀ x t, lkS x globT = some t → ∃ v, (mg x = some v ∨ (mg x = none ∧ mb x = some v)) ∧ ∀ Z h, Rep B Z h t v
  nolimit : B.h0.NoLimit
  cget : ∀ c n, memS n (CN.flds c) = true → plainGet B.K (B.ca c) n = true ∧ hasDictIn B.K (B.ca c) = true ∧ findIn B.K (.ref (B.ca c)) n = some none ∧ takerIn B.K (B.ca c) n = some none
  cset : ∀ c n, memS n (CN.flds c) = true → findIn B.K (.ref (B.ca c)) "__setattr__" = some (some (.builtin "object.__setattr__")) ∧ plainOver B.K (B.ca c) = true
  meth : ∀ c n f, meth c n = some f → plainGet B.K (B.ca c) n = true ∧ findIn B.K (.ref (B.ca c)) n = some (some (.ref (B.fa f)))
  fn : ∀ f, isFn B.K (.ref (B.fa f)) = true ∧ keepIn B.K (.ref (B.fa f)) = true
  fok : ∀ f, ∃ o fd, FnOk B f o fd
  isi : IsFacts B
  init : ∀ c f, CN.init c = some f → makesIn B.K (B.ca c) = true ∧ findIn B.K (.ref (B.ca c)) "__init__" = some (some (.ref (B.fa f))) ∧ keepIn B.K (.ref (B.ca c)) = true

set_option tactic.hygienic false in
theorem Facts.gl {B : Base} (W : Facts B) {x : Str} {t : T} (e : lkS x globT = some t) {h : Heap} (k : ∀ a o, B.h0.get? a = some o → h.get? a = some o) :
    ∃ v, (∃ mg mb, h.Ns mainGlobals mg ∧ h.Ns builtinsNs mb ∧ (mg x = some v ∨ (mg x = none ∧ mb x = some v))) ∧ ∀ Z h, Rep B Z h t v := by
  obtain ⟨mg, mb, a, b, c⟩ := W.glob
  obtain ⟨v, d, r⟩ := c x t e
  exact ⟨v, ⟨mg, mb, a.keeps k, b.keeps k, d⟩, r⟩

section
variable {B : Base} {g : Gh} {σ : Sg} {A : Around} {s : Shared} {env : Env} {cx : Cx} {Γ : Ga}

set_option tactic.hygienic false in
theorem notDebug {x : Str} (h : isDebug x = false) : (x == ("__debug__" : Str)) = false := by rw [← sEq_beq]; exact h

theorem name_ok (W : Facts B) (N : EnvOk cx env) (I : Inv B g σ s.heap) (F : FrameOk B env g σ s.heap Γ) {x : Str} {pos : Pos} {a : AV} (e : nameV cx Γ x = some a) :
    wpAny (BM B) A (eval (.Name x pos) env) (PE B g σ s a σ) no s := by
  unfold nameV at e
  split at e
  · first | exact nn e | exact nf e | first | exact nn e | exact nf e | cases e
  · rename_i hd
    have hd := notDebug hd
    split at e
    · rename_i q
      have hk := N.names _ _ q
      obtain ⟨m, hn, hm⟩ := F.ns
      obtain ⟨v, hv, av⟩ := hm x a e hk
      exact wpAny_Name (wpAny_loadName_local N.kind hk hn hv (PE.here I av rfl ⟨rfl, rfl, rfl⟩)) hd
    · rename_i q
      have hk := N.names _ _ q
      obtain ⟨c, v, hc, hcell, av⟩ := F.cell x a e hk
      exact wpAny_Name (wpAny_loadName_cell N.kind hk hc hcell (PE.here I av rfl ⟨rfl, rfl, rfl⟩)) hd
    · rename_i q
      have hk := N.names _ _ q
      obtain ⟨c, v, hc, hcell, av⟩ := F.cell x a e hk
      exact wpAny_Name (wpAny_loadName_cell N.kind hk hc hcell (PE.here I av rfl ⟨rfl, rfl, rfl⟩)) hd
    · rename_i q
      have hk := N.names _ _ q
      obtain ⟨t, ht, rfl⟩ := Option.map_eq_some_iff.mp e
      obtain ⟨v, ⟨mg, mb, h1, h2, h3⟩, r⟩ := W.gl ht I.stays
      have av : AVal B g s.heap σ (.t t) v := r _ _
      rw [← N.globals] at h1
      rw [← N.builtins] at h2
      rcases h3 with h3 | ⟨h3, h4⟩
      · exact Calls.Name_function_global N.kind hk (Calls.loadGlobal_global h1 h3 (PE.here I av rfl ⟨rfl, rfl, rfl⟩)) hd
      · exact Calls.Name_function_global N.kind hk (Calls.loadGlobal_builtin h1 h3 h2 h4 (PE.here I av rfl ⟨rfl, rfl, rfl⟩)) hd
    · first | exact nn e | exact nf e | first | exact nn e | exact nf e | cases e

set_option tactic.hygienic false in
theorem const_ok (I : Inv B g σ s.heap) {c : Const} {k : Nat} {pos : Pos} {t : T} (e : constT c = some t) : wpAny (BM B) A (eval (.Constant c k pos) env) (PE B g σ s (.t t) σ) no s := by
  cases c <;> first | exact nn e | exact nf e | first | exact nn e | exact nf e | cases e
  · exact wpAny_pure (PE.rep (tk := s.toks) I rfl)
  · exact wpAny_pure (PE.rep (tk := s.toks) I rfl)
  · exact wpAny_mkInt (PE.rep I ⟨_, rfl⟩)
  · exact wpAny_mkText (PE.rep I ⟨_, rfl⟩)
  · exact wpAny_mkTextBytes (PE.rep I ⟨_, rfl⟩)

set_option tactic.hygienic false in
theorem neg_ok (I : Inv B g σ s.heap) {n : Int} {k : Nat} {p pos : Pos} : wpAny (BM B) A (eval (.UnaryOp .USub (.Constant (.int n) k p) pos) env) (PE B g σ s (.t (.int (-n))) σ) no s := by
  rw [arm_eval_UnaryOp]
  refine wpAny_bind (wpAny_mkInt (wpAny_bind (wpAny_standAt (wpAny_holding ?_))))
  exact neg_int (PE.rep I ⟨_, rfl⟩)
end

end Mine
end
section
set_option maxRecDepth 100000
set_option autoImplicit false
namespace Mine
open PySem PySem.W PyProof.Rows

noncomputable abbrev E0 (g : Gh) (σ : Sg) (s : Shared) (g' : Gh) (σ' : Sg) (s' : Shared) : Prop := Ext (fun _ => False) g σ s.heap g' σ' s'.heap
inductive PVs (B : Base) (g : Gh) (σ : Sg) (s : Shared) (as : List AV) (σ' : Sg) (vs : List Value) (s' : Shared) : Prop
  | mk (g' : Gh) (x : E0 g σ s g' σ' s') (i : Inv B g' σ' s'.heap) (av : AVals B g' s'.heap σ' as vs) (r : SameRest s s') : PVs B g σ s as σ' vs s'
inductive PTs (B : Base) (g : Gh) (σ : Sg) (s : Shared) (ts : List T) (σ' : Sg) (vs : List Value) (s' : Shared) : Prop
  | mk (g' : Gh) (x : E0 g σ s g' σ' s') (i : Inv B g' σ' s'.heap) (av : RepL B g'.Z s'.heap ts vs) (r : SameRest s s') : PTs B g σ s ts σ' vs s'

set_option tactic.hygienic false in
theorem Bnd.u {A : Around} {n : Nat} (b : Bnd A n) : A.units + 100 < cLine := by have := b.units; omega
section
variable {B : Base} {R : Rec} {n : Nat} {g : Gh} {σ σ' σ₁ σ₂ : Sg} {A : Around} {s s₁ s₂ : Shared} {env : Env} {cx : Cx} {Γ : Ga}

theorem PE.into (I : Inv B g σ s.heap) {g₁ : Gh} (x : E0 g σ s g₁ σ₁ s₁) (I₁ : Inv B g₁ σ₁ s₁.heap) (r : SameRest s s₁) {a : AV} {m : Sem Value} (h : wpAny (BM B) A m (PE B g₁ σ₁ s₁ a σ₂) no s₁) : wpAny (BM B) A m (PE B g σ s a σ₂) no s₁ :=
  wpAny_mono h (fun _ _ q => PE.trans I x I₁ r q) fun _ _ y => y
theorem PB.into (I : Inv B g σ s.heap) {g₁ : Gh} (x : E0 g σ s g₁ σ₁ s₁) (I₁ : Inv B g₁ σ₁ s₁.heap) (r : SameRest s s₁) {a : Bool} {m : Sem Bool} (h : wpAny (BM B) A m (PB B g₁ σ₁ s₁ a σ₂) no s₁) : wpAny (BM B) A m (PB B g σ s a σ₂) no s₁ :=
  wpAny_mono h (fun _ _ q => PB.trans I x I₁ r q) fun _ _ y => y
set_option tactic.hygienic false in
theorem PE.told (I : Inv B g σ s.heap) {r : Bool} {v : Value} (x : Told s r v s₁) : PE B g σ s (.t (.bool r)) σ v s₁ := by
  obtain ⟨rfl, tk, rfl⟩ := x; exact PE.rep I rfl

theorem goE {m : Sem Value} {Q : Value → Shared → Prop} {a : AV} (h : wpAny (BM B) A m (PE B g σ s a σ₁) no s)
    (k : ∀ v s₁ g₁, E0 g σ s g₁ σ₁ s₁ → Inv B g₁ σ₁ s₁.heap → SameRest s s₁ → AVal B g₁ s₁.heap σ₁ a v → Q v s₁) : wpAny (BM B) A m Q no s :=
  wpAny_mono h (fun v s₁ ⟨g₁, x, i, av, r⟩ => k v s₁ g₁ x i r av) fun _ _ y => y

theorem evs_ok (S : Snd B R n) (hb : Bnd A n) (N : EnvOk cx env) (pos : Pos) : ∀ (es : List Expr) {g : Gh} {σ : Sg} {s : Shared} (_ : Inv B g σ s.heap) (_ : FrameOk B env g σ s.heap Γ) {as : List AV} {σ' : Sg} (_ : evs R cx Γ σ es = some (as, σ')),
    wpAny (BM B) A (spliced (backTo pos (starEach es env))) (PVs B g σ s as σ') no s
  | [], g, σ, s, I, F, as, σ', e => by
    first | exact nn e | exact nf e | first | exact nn e | exact nf e | cases e
    exact wpAny_pure ⟨g, Ext.refl, I, rfl, SameRest.refl⟩
  | e :: r, g, σ, s, I, F, as, σ', q => by
    unfold evs at q
    split at q
    · rename_i hs
      split at q
      · rename_i a σ₁ q1
        split at q
        · rename_i as' σ₂ q2
          first | exact nn q | exact nf q | first | exact nn q | exact nf q | cases q
          have he : starEach (e :: r) env = (false, eval e env) :: starEach r env := by cases e <;> first | rfl | first | exact nn hs | exact nf hs | cases hs
          rw [he]
          show wpAny _ _ (spliced ((false, eval e env) :: backTo pos (starEach r env))) _ _ _
          unfold spliced
          refine wpAny_bind (goE (S.e _ _ _ _ _ _ q1 A env g s hb N I F) fun v s₁ g₁ x I₁ r₁ av => ?_)
          simp only [Bool.false_eq_true, if_false]
          refine wpAny_bind (wpAny_pure (wpAny_bind (wpAny_holding ?_)))
          refine wpAny_mono (evs_ok S hb N pos r I₁ (F.ext x) q2) (fun vs s₂ ⟨g₂, x₂, I₂, avs, r₂⟩ => wpAny_pure ⟨g₂, x.trans I I₁ x₂, I₂, ⟨v, vs, rfl, x₂.aval av, avs⟩, r₁.trans r₂⟩) fun _ _ y => y
        · first | exact nn q | exact nf q | first | exact nn q | exact nf q | cases q
      · first | exact nn q | exact nf q | first | exact nn q | exact nf q | cases q
    · first | exact nn q | exact nf q | first | exact nn q | exact nf q | cases q

set_option tactic.hygienic false in
theorem ifexp_ok (S : Snd B R n) (hb : Bnd A n) (N : EnvOk cx env) (I : Inv B g σ s.heap) (F : FrameOk B env g σ s.heap Γ) {c a b : Expr} {pos : Pos} {v : AV} {k : Bool} (h1 : R.b cx Γ σ c = some (k, σ₁))
    (h2 : R.e cx Γ σ₁ (if k then a else b) = some (v, σ₂)) : wpAny (BM B) A (eval (.IfExp c a b pos) env) (PE B g σ s v σ₂) no s := by
  refine wpAny_IfExp (wpAny_mono (S.b _ _ _ _ _ _ h1 A env g s hb N I F) (fun b' s₁ ⟨g₁, x, I₁, e, r⟩ => ?_) fun _ _ y => y)
  subst e
  induction b' using Bool.casesOn with
  | true => exact PE.into I x I₁ r (S.e _ _ _ _ _ _ h2 A env g₁ s₁ hb N I₁ (F.ext x))
  | false => exact PE.into I x I₁ r (S.e _ _ _ _ _ _ h2 A env g₁ s₁ hb N I₁ (F.ext x))

set_option tactic.hygienic false in
theorem binop_ok (S : Snd B R n) (hb : Bnd A n) (N : EnvOk cx env) (I : Inv B g σ s.heap) (F : FrameOk B env g σ s.heap Γ) {l r : Expr} {op : Operator} {pos : Pos} {a b : AV} (h1 : R.e cx Γ σ l = some (a, σ₁)) (h2 : R.e cx Γ σ₁ r = some (b, σ₂))
    {x y t : T} (h3 : look σ₂ a = some x) (h4 : look σ₂ b = some y) (h5 : binA op x y = some t) : wpAny (BM B) A (eval (.BinOp l op r pos) env) (PE B g σ s (.t t) σ₂) no s := by
  refine wpAny_BinOp (goE (S.e _ _ _ _ _ _ h1 A env g s hb N I F) fun v s₁ g₁ x₁ I₁ r₁ av => ?_)
  refine goE (S.e _ _ _ _ _ _ h2 A env g₁ s₁ hb N I₁ (F.ext x₁)) fun u s₂ g₂ x₂ I₂ r₂ av₂ => ?_
  exact PE.into I (x₁.trans I I₁ x₂) I₂ (r₁.trans r₂) (binA_ok I₂ h5 (look_ok I₂ (x₂.aval av) h3) (look_ok I₂ av₂ h4))

set_option tactic.hygienic false in
theorem notSet_marks {op : CmpOp} {c : Expr} (h : notSet c = true) : behindInMarks op c = false := by cases c <;> first | rfl | first | exact nn h | exact nf h | first | exact nn h | exact nf h | cases h

noncomputable def cmpC (R : Rec) (cx : Cx) (Γ : Ga) (σ : Sg) (b : AV) (op : CmpOp) (c : Expr) : Option (Bool × Sg) := match R.e cx Γ σ c with
  | some (d, σ) => (cmpA op σ b d).map fun r => (r, σ)
  | none => none
noncomputable def cmpD (R : Rec) (cx : Cx) (Γ : Ga) (σ : Sg) (b : AV) (op : CmpOp) (c : Expr) : Option Bool → Option (Bool × Sg)
  | some false => some (false, σ)
  | some true => cmpC R cx Γ σ b op c
  | none => none
noncomputable def cmpG (R : Rec) (cx : Cx) (Γ : Ga) (σ : Sg) (a : AV) (op op2 : CmpOp) (c c2 : Expr) : Option (Bool × Sg) := match R.e cx Γ σ c with
  | some (b, σ) => cmpD R cx Γ σ b op2 c2 (cmpA op σ a b)
  | none => none
noncomputable def cmpH (R : Rec) (cx : Cx) (Γ : Ga) (σ : Sg) (a : AV) (ops : List CmpOp) (cs : List Expr) : Option (Bool × Sg) := match ops, cs with
  | [op], [c] => match notSet c with
    | true => cmpC R cx Γ σ a op c
    | false => none
  | [op, op2], [c, c2] => match notSet c2 with
    | true => cmpG R cx Γ σ a op op2 c c2
    | false => none
  | _, _ => none
set_option tactic.hygienic false in
theorem cmpC_inv {b : AV} {op : CmpOp} {c : Expr} {k : Bool} (h : cmpC R cx Γ σ b op c = some (k, σ₂)) : ∃ d, R.e cx Γ σ c = some (d, σ₂) ∧ cmpA op σ₂ b d = some k := by
  unfold cmpC at h
  induction h2 : R.e cx Γ σ c using Option.casesOn with
  | none => rw [h2] at h; first | exact nn h | exact nf h | first | exact nn h | exact nf h | cases h
  | some q =>
    obtain ⟨d, σ₃⟩ := q
    rw [h2] at h
    obtain ⟨k', h3, h4⟩ := Option.map_eq_some_iff.mp h
    cases h4
    exact ⟨d, rfl, h3⟩
set_option tactic.hygienic false in
theorem cmpH_inv {a : AV} {ops : List CmpOp} {cs : List Expr} {k : Bool} (h : cmpH R cx Γ σ a ops cs = some (k, σ₂)) :
    (∃ op c, ops = [op] ∧ cs = [c] ∧ notSet c = true ∧ cmpC R cx Γ σ a op c = some (k, σ₂)) ∨ ∃ op op2 c c2, ops = [op, op2] ∧ cs = [c, c2] ∧ notSet c2 = true ∧ cmpG R cx Γ σ a op op2 c c2 = some (k, σ₂) := by
  refine pgen fun P hP => ?_
  induction ops using List.casesOn with
  | nil => first | exact nn h | exact nf h | first | exact nn h | exact nf h | cases h
  | cons op ops => induction ops using List.casesOn with
    | nil => induction cs using List.casesOn with
      | nil => first | exact nn h | exact nf h | first | exact nn h | exact nf h | cases h
      | cons c cs => induction cs using List.casesOn with
        | cons _ _ => first | exact nn h | exact nf h | first | exact nn h | exact nf h | cases h
        | nil =>
          have h : (match notSet c with
            | true => cmpC R cx Γ σ a op c
            | false => none) = some (k, σ₂) := h
          induction hs : notSet c using Bool.casesOn with
          | false => rw [hs] at h; first | exact nn h | exact nf h | first | exact nn h | exact nf h | cases h
          | true => rw [hs] at h; exact hP (.inl ⟨op, c, rfl, rfl, hs, h⟩)
    | cons op2 ops => induction ops using List.casesOn with
      | cons _ _ => induction cs using List.casesOn with
        | nil => first | exact nn h | exact nf h | first | exact nn h | exact nf h | cases h
        | cons c cs => cases cs <;> first | exact nn h | exact nf h | first | exact nn h | exact nf h | cases h
      | nil => induction cs using List.casesOn with
        | nil => first | exact nn h | exact nf h | first | exact nn h | exact nf h | cases h
        | cons c cs => induction cs using List.casesOn with
          | nil => first | exact nn h | exact nf h | first | exact nn h | exact nf h | cases h
          | cons c2 cs => induction cs using List.casesOn with
            | cons _ _ => first | exact nn h | exact nf h | first | exact nn h | exact nf h | cases h
            | nil =>
              have h : (match notSet c2 with
                | true => cmpG R cx Γ σ a op op2 c c2
                | false => none) = some (k, σ₂) := h
              induction hs : notSet c2 using Bool.casesOn with
              | false => rw [hs] at h; first | exact nn h | exact nf h | first | exact nn h | exact nf h | cases h
              | true => rw [hs] at h; exact hP (.inr ⟨op, op2, c, c2, rfl, rfl, hs, h⟩)
set_option tactic.hygienic false in
theorem cmpG_inv {a : AV} {op op2 : CmpOp} {c c2 : Expr} {k : Bool} (h : cmpG R cx Γ σ a op op2 c c2 = some (k, σ₂)) : ∃ b σ₃ r, R.e cx Γ σ c = some (b, σ₃) ∧ cmpA op σ₃ a b = some r ∧
    ((r = false ∧ k = false ∧ σ₂ = σ₃) ∨ (r = true ∧ cmpC R cx Γ σ₃ b op2 c2 = some (k, σ₂))) := by
  unfold cmpG at h
  induction h2 : R.e cx Γ σ c using Option.casesOn with
  | none => rw [h2] at h; first | exact nn h | exact nf h | first | exact nn h | exact nf h | cases h
  | some q =>
    obtain ⟨b, σ₃⟩ := q
    rw [h2] at h
    dsimp only at h
    induction h3 : cmpA op σ₃ a b using Option.casesOn with
    | none => rw [h3] at h; first | exact nn h | exact nf h | first | exact nn h | exact nf h | cases h
    | some r =>
      rw [h3] at h
      induction r using Bool.casesOn with
      | false => cases h; exact ⟨b, _, false, rfl, h3, .inl ⟨rfl, rfl, rfl⟩⟩
      | true => exact ⟨b, σ₃, true, rfl, h3, .inr ⟨rfl, h⟩⟩
set_option tactic.hygienic false in
theorem cmpB_inv {l : Expr} {ops : List CmpOp} {cs : List Expr} {k : Bool} (h : cmpB R cx Γ σ l ops cs = some (k, σ₂)) : ∃ a σ₁, R.e cx Γ σ l = some (a, σ₁) ∧ cmpH R cx Γ σ₁ a ops cs = some (k, σ₂) := by
  have h : (match R.e cx Γ σ l with
    | some (a, σ) => cmpH R cx Γ σ a ops cs
    | none => none) = some (k, σ₂) := h
  induction h1 : R.e cx Γ σ l using Option.casesOn with
  | none => rw [h1] at h; first | exact nn h | exact nf h | first | exact nn h | exact nf h | cases h
  | some q => obtain ⟨a, σ₁⟩ := q; rw [h1] at h; exact ⟨a, σ₁, rfl, h⟩
set_option tactic.hygienic false in
theorem cmp1_ok (S : Snd B R n) (hb : Bnd A n) (N : EnvOk cx env) (I : Inv B g σ s.heap) (F : FrameOk B env g σ s.heap Γ) {l r : Expr} {op : CmpOp} {pos : Pos} {k : Bool} (h : cmpB R cx Γ σ l [op] [r] = some (k, σ₂)) :
    wpAny (BM B) A (eval (.Compare l [op] [r] pos) env) (PE B g σ s (.t (.bool k)) σ₂) no s := by
  obtain ⟨a, σ₁, h1, h⟩ := cmpB_inv h
  rcases cmpH_inv h with ⟨op', c, ho, hc, hs, h⟩ | ⟨_, _, _, _, ho, _⟩
  · cases ho
    cases hc
    obtain ⟨b, h2, h3⟩ := cmpC_inv h
    refine wpAny_Compare1 ?_ (notSet_marks hs)
    refine goE (S.e _ _ _ _ _ _ h1 A env g s hb N I F) fun v s₁ g₁ x₁ I₁ r₁ av => ?_
    refine goE (S.e _ _ _ _ _ _ h2 A env g₁ s₁ hb N I₁ (F.ext x₁)) fun u s₂ g₂ x₂ I₂ r₂ av₂ => ?_
    exact PE.into I (x₁.trans I I₁ x₂) I₂ (r₁.trans r₂) (wpAny_mono (cmpA_ok I₂ h3 (x₂.aval av) av₂ hb.u) (fun c s₃ t => PE.told I₂ t) fun _ _ y => y)
  · cases ho

set_option tactic.hygienic false in
theorem cmpT_ok (S : Snd B R n) (hb : Bnd A n) (N : EnvOk cx env) (I : Inv B g σ s.heap) (F : FrameOk B env g σ s.heap Γ) {l : Expr} {ops : List CmpOp} {cs : List Expr} {pos : Pos} {k : Bool} {whole : Sem Value} (h : cmpB R cx Γ σ l ops cs = some (k, σ₂)) :
    wpAny (BM B) A (isTrue (.Compare l ops cs pos) env whole) (PB B g σ s k σ₂) no s := by
  refine wpAny_gen fun Q hQ => ?_
  obtain ⟨a, σ₁, h1, h⟩ := cmpB_inv h
  rcases cmpH_inv h with ⟨op, c, rfl, rfl, hs, h⟩ | ⟨op, op2, c, c2, rfl, rfl, hs, h⟩
  · obtain ⟨b, h2, h3⟩ := cmpC_inv h
    refine wpAny_isTrue_Compare1 ?_ (notSet_marks hs)
    refine goE (S.e _ _ _ _ _ _ h1 A env g s hb N I F) fun v s₁ g₁ x₁ I₁ r₁ av => ?_
    refine goE (S.e _ _ _ _ _ _ h2 A env g₁ s₁ hb N I₁ (F.ext x₁)) fun u s₂ g₂ x₂ I₂ r₂ av₂ => ?_
    refine wpAny_mono (cmpA_ok I₂ h3 (x₂.aval av) av₂ hb.u) (fun c s₃ t => ?_) fun _ _ y => y
    obtain ⟨rfl, tk, rfl⟩ := t
    exact wpAny_truthy_bool (hQ _ _ ⟨g₂, x₁.trans I I₁ x₂, I₂, rfl, r₁.trans r₂⟩)
  · obtain ⟨b, σ₃, r, h2, h3, hh⟩ := cmpG_inv h
    have hm : lastMarks (op :: op2 :: []) (c :: c2 :: []) = false := notSet_marks hs
    refine isTrue_chain ?_ hm
    refine goE (S.e _ _ _ _ _ _ h1 A env g s hb N I F) fun v s₁ g₁ x₁ I₁ r₁ av => ?_
    show wpAny _ _ (do
      let rv ← holding [v] (eval c env)
      standAt pos
      let c' ← holding [v, rv] (compareOp op v rv)
      release [v, rv] [c']
      if ← holding [c', rv] (truthy c') then testChain pos rv [op2] [eval c2 env] else pure false) _ _ _
    refine wpAny_bind (wpAny_holding ?_)
    refine goE (S.e _ _ _ _ _ _ h2 A env g₁ s₁ hb N I₁ (F.ext x₁)) fun u s₂ g₂ x₂ I₂ r₂ av₂ => ?_
    refine wpAny_bind (wpAny_standAt (wpAny_bind (wpAny_holding ?_)))
    have x12 := x₁.trans I I₁ x₂
    refine wpAny_mono (cmpA_ok I₂ h3 (x₂.aval av) av₂ hb.u) (fun c s₃ t => ?_) fun _ _ y => y
    obtain ⟨rfl, tk, rfl⟩ := t
    refine wpAny_bind (wpAny_release' (wpAny_bind (wpAny_holding (wpAny_truthy_bool ?_))))
    rcases hh with ⟨rfl, rfl, rfl⟩ | ⟨rfl, hh⟩
    · exact wpAny_pure (hQ _ _ ⟨g₂, x12, I₂, rfl, r₁.trans r₂⟩)
    · obtain ⟨d, h5, h6⟩ := cmpC_inv hh
      show wpAny _ _ (do
        let rv ← holding [u] (eval c2 env)
        standAt pos
        let c ← operate [u, rv] (compareOp op2 u rv)
        holding [c] (truthy c)) _ _ _
      refine wpAny_bind (wpAny_holding ?_)
      have I₃ : Inv B g₂ σ₃ (⟨s₂.heap, s₂.gens, s₂.drawn, tk, s₂.os⟩ : Shared).heap := I₂
      refine goE (S.e _ _ _ _ _ _ h5 A env g₂ _ hb N I₃ ((F.ext x₁).ext x₂)) fun w s₄ g₄ x₄ I₄ r₄ av₄ => ?_
      refine wpAny_bind (wpAny_standAt (wpAny_bind (wpAny_operating ?_)))
      refine wpAny_mono (cmpA_ok I₄ h6 (x₄.aval av₂) av₄ hb.u) (fun c s₅ t => ?_) fun _ _ y => y
      obtain ⟨rfl, tk', rfl⟩ := t
      exact wpAny_holding (wpAny_truthy_bool (hQ _ _ ⟨g₄, x12.trans I I₂ x₄, I₄, rfl, (r₁.trans r₂).trans r₄⟩))

theorem ands_ok (S : Snd B R n) (hb : Bnd A n) (N : EnvOk cx env) : ∀ (es : List Expr) {g : Gh} {σ : Sg} {s : Shared} (_ : Inv B g σ s.heap) (_ : FrameOk B env g σ s.heap Γ) {k : Bool} {σ' : Sg} (_ : andsB R cx Γ σ es = some (k, σ')),
    wpAny (BM B) A (allTrue .And es env) (PB B g σ s k σ') no s
  | [], g, σ, s, I, F, k, σ', e => by cases e; exact wpAny_pure ⟨g, Ext.refl, I, rfl, SameRest.refl⟩
  | e :: r, g, σ, s, I, F, k, σ', q => by
    unfold andsB at q
    split at q
    · rename_i σ₁ q1
      refine wpAny_allTrue_And_cons (wpAny_mono (S.b _ _ _ _ _ _ q1 A env g s hb N I F) (fun b' s₁ ⟨g₁, x, I₁, e, r₁⟩ => ?_) fun _ _ y => y)
      subst e
      exact PB.into I x I₁ r₁ (ands_ok S hb N r I₁ (F.ext x) q)
    · rename_i σ₁ q1
      first | exact nn q | exact nf q | first | exact nn q | exact nf q | cases q
      refine wpAny_allTrue_And_cons (wpAny_mono (S.b _ _ _ _ _ _ q1 A env g s hb N I F) (fun b' s₁ ⟨g₁, x, I₁, e, r₁⟩ => ?_) fun _ _ y => y)
      subst e
      exact ⟨g₁, x, I₁, rfl, r₁⟩
    · first | exact nn q | exact nf q | first | exact nn q | exact nf q | cases q
theorem ors_ok (S : Snd B R n) (hb : Bnd A n) (N : EnvOk cx env) : ∀ (es : List Expr) {g : Gh} {σ : Sg} {s : Shared} (_ : Inv B g σ s.heap) (_ : FrameOk B env g σ s.heap Γ) {k : Bool} {σ' : Sg} (_ : orsB R cx Γ σ es = some (k, σ')),
    wpAny (BM B) A (allTrue .Or es env) (PB B g σ s k σ') no s
  | [], g, σ, s, I, F, k, σ', e => by cases e; exact wpAny_pure ⟨g, Ext.refl, I, rfl, SameRest.refl⟩
  | e :: r, g, σ, s, I, F, k, σ', q => by
    unfold orsB at q
    split at q
    · rename_i σ₁ q1
      first | exact nn q | exact nf q | first | exact nn q | exact nf q | cases q
      refine wpAny_allTrue_Or_cons (wpAny_mono (S.b _ _ _ _ _ _ q1 A env g s hb N I F) (fun b' s₁ ⟨g₁, x, I₁, e, r₁⟩ => ?_) fun _ _ y => y)
      subst e
      exact ⟨g₁, x, I₁, rfl, r₁⟩
    · rename_i σ₁ q1
      refine wpAny_allTrue_Or_cons (wpAny_mono (S.b _ _ _ _ _ _ q1 A env g s hb N I F) (fun b' s₁ ⟨g₁, x, I₁, e, r₁⟩ => ?_) fun _ _ y => y)
      subst e
      exact PB.into I x I₁ r₁ (ors_ok S hb N r I₁ (F.ext x) q)
    · first | exact nn q | exact nf q | first | exact nn q | exact nf q | cases q
set_option tactic.hygienic false in
theorem truthA_ok (I : Inv B g σ s.heap) {a : AV} {k : Bool} (e : (look σ a).bind truthyT = some k) {v : Value} (x : AVal B g s.heap σ a v) : wpAny (BM B) A (truthy v) (PB B g σ s k σ) no s := by
  obtain ⟨t, h1, h2⟩ := Option.bind_eq_some_iff.mp e
  refine wpAny_mono (truthyT_ok (g := g) h2 (look_ok I x h1)) (fun r s' ⟨e, tk, e2⟩ => ?_) fun _ _ y => y
  subst e e2
  exact ⟨g, Ext.refl, I, rfl, rfl, rfl, rfl⟩
theorem boolV_ok (S : Snd B R n) (hb : Bnd A n) (N : EnvOk cx env) (pos : Pos) (op : BoolOp) : ∀ (es : List Expr) {g : Gh} {σ : Sg} {s : Shared} (_ : Inv B g σ s.heap) (_ : FrameOk B env g σ s.heap Γ) {a : AV} {σ' : Sg} (_ : boolV R cx Γ op σ es = some (a, σ')),
    wpAny (BM B) A (boolOp pos op (evalEach es env)) (PE B g σ s a σ') no s
  | [], g, σ, s, I, F, a, σ', e => by cases e
  | [e], g, σ, s, I, F, a, σ', q => S.e _ _ _ _ _ _ q A env g s hb N I F
  | e :: e2 :: r, g, σ, s, I, F, a, σ', q => by
    simp only [boolV] at q
    split at q
    · rename_i v σ₁ q1
      show wpAny _ _ (do
        let v ← eval e env
        standAt pos
        let t ← holding [v] (truthy v)
        match op, t with
        | .And, false | .Or, true => pure v
        | _, _ => boolOp pos op (evalEach (e2 :: r) env)) _ _ _
      refine wpAny_bind (goE (S.e _ _ _ _ _ _ q1 A env g s hb N I F) fun u s₁ g₁ x I₁ r₁ av => ?_)
      refine wpAny_bind (wpAny_standAt (wpAny_bind (wpAny_holding ?_)))
      split at q
      · rename_i q2
        refine wpAny_mono (truthA_ok I₁ q2 av) (fun b s₂ ⟨g₂, x₂, I₂, e, r₂⟩ => ?_) fun _ _ y => y
        subst e
        exact PE.into I (x.trans I I₁ x₂) I₂ (r₁.trans r₂) (boolV_ok S hb N pos .And (e2 :: r) I₂ ((F.ext x).ext x₂) q)
      · rename_i q2
        first | exact nn q | exact nf q | first | exact nn q | exact nf q | cases q
        refine wpAny_mono (truthA_ok I₁ q2 av) (fun b s₂ ⟨g₂, x₂, I₂, e, r₂⟩ => ?_) fun _ _ y => y
        subst e
        exact wpAny_pure ⟨g₂, x.trans I I₁ x₂, I₂, x₂.aval av, r₁.trans r₂⟩
      · rename_i q2
        first | exact nn q | exact nf q | first | exact nn q | exact nf q | cases q
        refine wpAny_mono (truthA_ok I₁ q2 av) (fun b s₂ ⟨g₂, x₂, I₂, e, r₂⟩ => ?_) fun _ _ y => y
        subst e
        exact wpAny_pure ⟨g₂, x.trans I I₁ x₂, I₂, x₂.aval av, r₁.trans r₂⟩
      · rename_i q2
        refine wpAny_mono (truthA_ok I₁ q2 av) (fun b s₂ ⟨g₂, x₂, I₂, e, r₂⟩ => ?_) fun _ _ y => y
        subst e
        exact PE.into I (x.trans I I₁ x₂) I₂ (r₁.trans r₂) (boolV_ok S hb N pos .Or (e2 :: r) I₂ ((F.ext x).ext x₂) q)
      · first | exact nn q | exact nf q | first | exact nn q | exact nf q | cases q
    · first | exact nn q | exact nf q | first | exact nn q | exact nf q | cases q
end
end Mine
end
section
set_option maxRecDepth 100000
set_option autoImplicit false
namespace Mine
open PySem PySem.W PyProof.Rows

/-- a place that is neither frozen nor own: the machine's own for a while -/
structure Free (g : Gh) (σ : Sg) (h : Heap) (a : Addr) : Prop where
  lt : a < h.objs.size
  nz : ¬ g.Z a
  no : ¬ Owned g σ a
theorem Free.ext {X : Addr → Prop} {g g' : Gh} {σ σ' : Sg} {h h' : Heap} {a : Addr} (f : Free g σ h a) (x : Ext X g σ h g' σ' h') : Free g' σ' h' a :=
  ⟨Nat.lt_of_lt_of_le f.lt x.size, fun z => (x.zn a z).elim f.nz fun q => q.elim f.no fun l => absurd f.lt (Nat.not_lt_of_le l), fun q => (x.on a q).elim f.no fun l => absurd f.lt (Nat.not_lt_of_le l)⟩
theorem Inv.free_new {B : Base} {g : Gh} {σ : Sg} {h h' : Heap} (I : Inv B g σ h) {a : Addr} (l : h.objs.size ≤ a) (l2 : a < h'.objs.size) : Free g σ h' a :=
  ⟨l2, fun z => absurd (I.zlt a z) (Nat.not_lt_of_le l), fun q => absurd (I.owned_lt q) (Nat.not_lt_of_le l)⟩

section
variable {B : Base} {g : Gh} {σ : Sg} {h h' : Heap}
/-  a free place becomes an own object: told from the state where it was not there yet -/
set_option tactic.hygienic false in
theorem Inv.adopt {g₀ : Gh} {σ₀ : Sg} {h₀ : Heap} (I₀ : Inv B g₀ σ₀ h₀) (x : Ext (fun _ => False) g₀ σ₀ h₀ g σ h) (I : Inv B g σ h) {a d : Addr} (ha : h₀.objs.size ≤ a) (hd : h₀.objs.size ≤ d) (fa : Free g σ h a) (fd : Free g σ h d) (o : OObj)
    (ok : ObjOk B ⟨g.Z, fun j => if j = σ.length then a else g.r j, fun j => if j = σ.length then d else g.d j⟩ h (σ ++ [o]) σ.length o) :
    ∃ g' : Gh, Inv B g' (σ ++ [o]) h ∧ Ext (fun _ => False) g₀ σ₀ h₀ g' (σ ++ [o]) h ∧ g'.r σ.length = a ∧ g'.Z = g.Z ∧ (∀ b, Owned g' (σ ++ [o]) b → Owned g σ b ∨ b = a ∨ b = d) := by
  have ag : ∀ j, j < σ.length → (if j = σ.length then a else g.r j) = g.r j := fun j hj => if_neg (Nat.ne_of_lt hj)
  have agd : ∀ j, j < σ.length → (if j = σ.length then d else g.d j) = g.d j := fun j hj => if_neg (Nat.ne_of_lt hj)
  have own : ∀ j b, OwnA (⟨g.Z, fun j => if j = σ.length then a else g.r j, fun j => if j = σ.length then d else g.d j⟩ : Gh) (σ ++ [o]) j b → (OwnA g σ j b) ∨ (j = σ.length ∧ (b = a ∨ b = d)) := by
    intro j b x
    unfold OwnA at x
    rcases Nat.lt_trichotomy j σ.length with q | q | q
    · left
      rw [List.getElem?_append_left q] at x
      unfold OwnA
      dsimp only at x
      rw [ag j q, agd j q] at x
      exact x
    · right
      subst q
      refine ⟨rfl, ?_⟩
      rw [List.getElem?_append_right (Nat.le_refl _), Nat.sub_self] at x
      dsimp only [List.getElem?_cons_zero] at x
      rw [if_pos rfl, if_pos rfl] at x
      induction o using OObj.casesOn with
      | list ts => exact .inl x
      | dict ks ts => exact .inl x
      | inst c ns as => exact x
      | frz t => exact x.elim
    · rw [List.getElem?_eq_none (by rw [List.length_append]; simp only [List.length_cons, List.length_nil]; omega)] at x
      exact x.elim
  have fr : ∀ b, b = a ∨ b = d → Free g σ h b := fun b q => by rcases q with rfl | rfl <;> assumption
  have frl : ∀ b, b = a ∨ b = d → h₀.objs.size ≤ b := fun b q => by rcases q with rfl | rfl <;> assumption
  refine ⟨⟨g.Z, fun j => if j = σ.length then a else g.r j, fun j => if j = σ.length then d else g.d j⟩, ⟨I.sm, I.stays, I.zbase, I.zlt, ?_, ?_, ?_⟩, ?_, if_pos rfl, rfl, fun b ⟨j, q⟩ => (own j b q).imp (fun q => ⟨j, q⟩) fun q => q.2⟩
  · intro j o' e
    rcases Nat.lt_or_ge j σ.length with q | q
    · rw [List.getElem?_append_left q] at e
      exact (I.obj j o' e).carry q e (fun t v r => r) (fun t v r => r) (fun a _ o q => q) ag agd (by rw [List.length_append]; exact Nat.le_add_right _ _)
    · have : j = σ.length := by
        have := lt_of_some e
        rw [List.length_append] at this
        simp only [List.length_cons, List.length_nil] at this
        omega
      subst this
      rw [List.getElem?_append_right (Nat.le_refl _), Nat.sub_self, List.getElem?_cons_zero] at e
      first | exact nn e | exact nf e | first | exact nn e | exact nf e | cases e
      exact ok
  · intro i j b x y
    rcases own i b x with x | ⟨x, l⟩
    · rcases own j b y with y | ⟨y, l⟩
      · exact I.inj i j b x y
      · exact absurd ⟨i, x⟩ (fr b l).no
    · rcases own j b y with y | ⟨y, l'⟩
      · exact absurd ⟨j, y⟩ (fr b l).no
      · rw [x, y]
  · intro i b x z
    rcases own i b x with x | ⟨x, l⟩
    · exact I.nz i b x z
    · exact (fr b l).nz z
  · refine ⟨x.size, x.keep, x.zm, x.zn, fun j hj => (ag j (Nat.lt_of_lt_of_le hj x.len)).trans (x.ag j hj), by rw [List.length_append]; exact Nat.le_trans x.len (Nat.le_add_right _ _), fun b ⟨j, y⟩ => ?_, x.zk⟩
    rcases own j b y with y | ⟨_, l⟩
    · exact x.on b ⟨j, y⟩
    · exact .inr (frl b l)
end

section
variable {B : Base} {R : Rec} {n : Nat} {g : Gh} {σ σ' σ₁ σ₂ : Sg} {A : Around} {s s₁ s₂ : Shared} {env : Env} {cx : Cx} {Γ : Ga}

set_option tactic.hygienic false in
theorem newList_ok (I : Inv B g σ s.heap) {ts : List T} {vs : List Value} (r : RepL B g.Z s.heap ts vs) (hz : sizeOk ts.length = true) :
    wpAny (BM B) A (newList vs) (PE B g σ s (.own σ.length) (σ ++ [.list ts])) no s := by
  refine wpAny_newList ?_ (line_ge (by have := r.length; have := sizeOk_le hz; omega))
  obtain ⟨g', I', x, e, z⟩ := I.newOwn (h' := s.heap.push { cls := .type "list", data := .seq vs.toArray }) (push_keeps _ _) (by simp) s.heap.objs.size s.heap.objs.size (Nat.le_refl _) (Nat.le_refl _) (.list ts)
    ⟨vs, ⟨0, by dsimp only; rw [if_pos rfl]; exact Heap.get?_push_size _ rfl⟩, RepL.mono (fun _ z => z) (fun a o _ e => push_keeps _ _ a o e) _ _ r⟩
  exact ⟨g', x, I', ⟨by rw [List.length_append]; simp, by rw [e]⟩, rfl, rfl, rfl⟩
set_option tactic.hygienic false in
theorem newTuple_ok (I : Inv B g σ s.heap) {ts : List T} {vs : List Value} (r : RepL B g.Z s.heap ts vs) (hz : sizeOk ts.length = true) :
    wpAny (BM B) A (newTuple vs) (PE B g σ s (.t (.tup ts)) σ) no s := by
  refine wpAny_newTuple ?_ (line_ge (by have := r.length; have := sizeOk_le hz; omega))
  exact PE.pushed I ⟨s.heap.objs.size, vs, rfl, .inr (new_in _ _), ⟨0, Heap.get?_push_size _ rfl⟩, r.grown (push_keeps _ _)⟩

theorem evsT_ok (S : Snd B R n) (hb : Bnd A n) (N : EnvOk cx env) (pos : Pos) (I : Inv B g σ s.heap) (F : FrameOk B env g σ s.heap Γ) {es : List Expr} {ts : List T} (e : evsT R cx Γ σ es = some (ts, σ')) :
    wpAny (BM B) A (spliced (backTo pos (starEach es env))) (PTs B g σ s ts σ') no s := by
  unfold evsT at e
  split at e
  · rename_i as σ₁ e1
    refine wpAny_mono (evs_ok S hb N pos es I F e1) (fun vs s₁ ⟨g₁, x, I₁, av, r₁⟩ => ?_) fun _ _ y => y
    obtain ⟨g₂, I₂, x₂, r₂⟩ := frzs_ok as I₁ av e
    exact ⟨g₂, x.trans I I₁ x₂, I₂, r₂, r₁⟩
  · first | exact nn e | exact nf e | first | exact nn e | exact nf e | cases e

set_option tactic.hygienic false in
theorem list_ok (S : Snd B R n) (hb : Bnd A n) (N : EnvOk cx env) (I : Inv B g σ s.heap) (F : FrameOk B env g σ s.heap Γ) {es : List Expr} {pos : Pos} {ts : List T} (e : evsT R cx Γ σ es = some (ts, σ')) (hz : sizeOk ts.length = true) :
    wpAny (BM B) A (eval (.List es pos) env) (PE B g σ s (.own σ'.length) (σ' ++ [.list ts])) no s := by
  rw [arm_eval_List]
  refine wpAny_bind (wpAny_standAt (wpAny_bind ?_))
  refine wpAny_mono (evsT_ok S hb N pos I F e) (fun vs s₁ ⟨g₁, x, I₁, r, r₁⟩ => ?_) fun _ _ y => y
  exact PE.into I x I₁ r₁ (newList_ok I₁ r hz)
set_option tactic.hygienic false in
theorem tuple_ok (S : Snd B R n) (hb : Bnd A n) (N : EnvOk cx env) (I : Inv B g σ s.heap) (F : FrameOk B env g σ s.heap Γ) {es : List Expr} {k : Nat} {pos : Pos} {ts : List T} (e : evsT R cx Γ σ es = some (ts, σ')) (hz : sizeOk ts.length = true) :
    wpAny (BM B) A (eval (.Tuple es k pos) env) (PE B g σ s (.t (.tup ts)) σ') no s := by
  rw [arm_eval_Tuple]
  refine wpAny_bind (wpAny_standAt (wpAny_bind ?_))
  refine wpAny_mono (evsT_ok S hb N pos I F e) (fun vs s₁ ⟨g₁, x, I₁, r, r₁⟩ => ?_) fun _ _ y => y
  exact PE.into I x I₁ r₁ (newTuple_ok I₁ r hz)

/-! dict displays -/
noncomputable def PRel (B : Base) (Z : Addr → Prop) (h : Heap) : List (Key × T) → List (Value × Value) → Prop
  | [], ps => ps = []
  | (k, t) :: l, ps => ∃ kv v r, ps = (kv, v) :: r ∧ KeyIs k kv ∧ Rep B Z h t v ∧ PRel B Z h l r
set_option tactic.hygienic false in
theorem dictE_inv {k v : Expr} {ks : List (Option Expr)} {vs : List Expr} {l : List (Key × T)} (e : dictE R cx Γ σ (some k :: ks) (v :: vs) = some (l, σ')) : ∃ kt σ₁ key a σ₂ t σ₃ l', R.e cx Γ σ k = some (.t kt, σ₁) ∧ keyOf kt = some key ∧ R.e cx Γ σ₁ v = some (a, σ₂) ∧ frz σ₂ a = some (t, σ₃) ∧
    dictE R cx Γ σ₃ ks vs = some (l', σ') ∧ l = (key, t) :: l' := by
  refine pgen fun P hP => ?_
  rw [dictE_one] at e
  induction e1 : R.e cx Γ σ k using Option.casesOn with
  | none => rw [e1] at e; first | exact nn e | exact nf e | first | exact nn e | exact nf e | cases e
  | some r =>
    obtain ⟨w, σ₁⟩ := r
    rw [e1] at e
    induction w using AV.casesOn with
    | own => first | exact nn e | exact nf e | first | exact nn e | exact nf e | cases e
    | t kt =>
      dsimp only at e
      induction hk : keyOf kt using Option.casesOn with
      | none => rw [hk] at e; first | exact nn e | exact nf e | first | exact nn e | exact nf e | cases e
      | some key =>
        rw [hk] at e
        dsimp only at e
        induction e2 : R.e cx Γ σ₁ v using Option.casesOn with
        | none => rw [e2] at e; first | exact nn e | exact nf e | first | exact nn e | exact nf e | cases e
        | some r =>
          obtain ⟨a, σ₂⟩ := r
          rw [e2] at e
          dsimp only at e
          induction e3 : frz σ₂ a using Option.casesOn with
          | none => rw [e3] at e; first | exact nn e | exact nf e | first | exact nn e | exact nf e | cases e
          | some r =>
            obtain ⟨t, σ₃⟩ := r
            rw [e3] at e
            dsimp only at e
            induction e4 : dictE R cx Γ σ₃ ks vs using Option.casesOn with
            | none => rw [e4] at e; first | exact nn e | exact nf e | first | exact nn e | exact nf e | cases e
            | some r =>
              obtain ⟨l', σ₄⟩ := r
              rw [e4] at e
              first | exact nn e | exact nf e | first | exact nn e | exact nf e | cases e
              exact hP ⟨kt, σ₁, key, a, σ₂, t, σ₃, l', e1, hk, e2, e3, e4, rfl⟩
inductive PPs (B : Base) (g : Gh) (σ : Sg) (s : Shared) (l : List (Key × T)) (σ' : Sg) (ps : List (Value × Value)) (s' : Shared) : Prop
  | mk (g' : Gh) (x : E0 g σ s g' σ' s') (i : Inv B g' σ' s'.heap) (p : PRel B g'.Z s'.heap l ps) (r : SameRest s s') : PPs B g σ s l σ' ps s'
theorem pairs_ok (S : Snd B R n) (hb : Bnd A n) (N : EnvOk cx env) (pos : Pos) : ∀ (ks : List (Option Expr)) (vs : List Expr) {l : List (Key × T)} {g : Gh} {σ σ' : Sg} {s : Shared} (_ : Inv B g σ s.heap) (_ : FrameOk B env g σ s.heap Γ) (_ : dictE R cx Γ σ ks vs = some (l, σ')),
    wpAny (BM B) A (evalPairs (pairTrees ks vs env pos)) (PPs B g σ s l σ') no s
  | [], [], l, g, σ, σ', s, I, F, e => by
    first | exact nn e | exact nf e | first | exact nn e | exact nf e | cases e
    exact wpAny_pure ⟨g, Ext.refl, I, rfl, SameRest.refl⟩
  | some k :: ks, v :: vs, l, g, σ, σ', s, I, F, e => by
    refine wpAny_gen fun Q hQ => ?_
    obtain ⟨kt, σ₁, key, a, σ₂, t, σ₃, l', e1, hkey, e2, e3, e4, rfl⟩ := dictE_inv e
    show wpAny _ _ (do
      let kv ← eval k env
      let vv ← holding [kv] (do let x ← eval v env; standAt pos; pure x)
      return (kv, vv) :: (← holding [kv, vv] (evalPairs (pairTrees ks vs env pos)))) _ _ _
    refine wpAny_bind (goE (S.e _ _ _ _ _ _ e1 A env g s hb N I F) fun kv s₁ g₁ x₁ I₁ r₁ av₁ => ?_)
    refine wpAny_bind (wpAny_holding (wpAny_bind ?_))
    refine goE (S.e _ _ _ _ _ _ e2 A env g₁ s₁ hb N I₁ (F.ext x₁)) fun vv s₂ g₂ x₂ I₂ r₂ av₂ => ?_
    refine wpAny_bind (wpAny_standAt (wpAny_pure ?_))
    refine wpAny_bind (wpAny_holding ?_)
    obtain ⟨g₃, I₃, x₃, rp⟩ := frz_ok I₂ av₂ e3
    have x13 := x₂.trans I₁ I₂ x₃
    have x03 := x₁.trans I I₁ x13
    refine wpAny_mono (pairs_ok S hb N pos ks vs I₃ (F.ext x03) e4) (fun ps s₄ ⟨g₄, x₄, I₄, pr, r₄⟩ => wpAny_pure (hQ _ _ ⟨g₄, x03.trans I I₃ x₄, I₄, ⟨kv, vv, ps, rfl, keyOf_is hkey av₁, x₄.rep rp, pr⟩, (r₁.trans r₂).trans r₄⟩)) fun _ _ y => y
  | [], _ :: _, _, _, _, _, _, _, _, e => by cases e
  | k :: _, [], _, _, _, _, _, _, _, e => by cases k <;> first | exact nn e | exact nf e | first | exact nn e | exact nf e | cases e
  | none :: _, _ :: _, _, _, _, _, _, _, _, e => by cases e
theorem dictE_len : ∀ (ks : List (Option Expr)) (vs : List Expr) {l : List (Key × T)} {σ σ' : Sg}, dictE R cx Γ σ ks vs = some (l, σ') → ks.all (·.isSome) = true ∧ ks.length = vs.length ∧ l.length = ks.length
  | [], [], l, σ, σ', e => by cases e; exact ⟨rfl, rfl, rfl⟩
  | some k :: ks, v :: vs, l, σ, σ', e => by
    obtain ⟨kt, σ₁, key, a, σ₂, t, σ₃, l', _, _, _, _, e4, rfl⟩ := dictE_inv e
    have ih := dictE_len ks vs e4
    exact ⟨ih.1, congrArg Nat.succ ih.2.1, congrArg Nat.succ ih.2.2⟩
  | [], _ :: _, _, _, _, e => by cases e
  | k :: _, [], _, _, _, e => by cases k <;> first | exact nn e | exact nf e | first | exact nn e | exact nf e | cases e
  | none :: _, _ :: _, _, _, _, e => by cases e

/-- a store into a dict at hand, wherever it is owned -/
theorem putD_some {α : Type} {k : Key} {t : α} {ks : List Key} {ts : List α} {d : List Key × List α} (e : putD k t ks ts = some d) : kindOk k ks = true ∧ ks.length ≤ 1000 ∧ d = putK k t ks ts := by
  unfold putD at e
  split at e
  · rename_i q; cases e; have q := Bool.and_eq_true_iff.mp q; exact ⟨q.1, Nat.le_of_ble_eq_true q.2, rfl⟩
  · first | exact nn e | exact nf e | first | exact nn e | exact nf e | cases e
set_option tactic.hygienic false in
theorem set_dict_ok {d : Addr} {ks : List Key} {vs : List Value} (x : DictIs B s.heap d ks vs) {k : Key} (hk : kindOk k ks = true) (hz : ks.length ≤ 1000) {kv v : Value} (y : KeyIs k kv) {Q : Unit → Shared → Prop}
    (h : ∀ h' tk, DictIs B h' d (putK k v ks vs).1 (putK k v ks vs).2 → Heap.SameBut d s.heap h' → Q () ⟨h', s.gens, s.drawn, tk, s.os⟩) : wpAny (BM B) A (dictSet d kv v) Q no s := by
  cases k with
  | i n =>
    obtain ⟨kvs, D, rfl, rfl⟩ := dict_int x (kindOk_int x hk)
    obtain ⟨t, rfl⟩ := y
    refine wpAny_dictSet_pairs (intKind_is _ _ _ _) D (fun h' D' hs => h h' _ ?_ hs) (line_ge (by simp at hz; omega))
    rw [putK_int _ _ _ (DictOf.nodup D)]
    exact ⟨x.1, .inl ⟨_, D', rfl, rfl⟩⟩
  | s n =>
    obtain ⟨kvs, D, rfl, rfl⟩ := dict_str x (kindOk_str x hk)
    obtain ⟨t, rfl⟩ := y
    refine wpAny_dictSet_pairs (strKind_is _ _ _ _) D (fun h' D' hs => h h' _ ?_ hs) (line_ge (by simp at hz; omega))
    rw [putK_str _ _ _ (DictOf.nodup D)]
    exact ⟨x.1, .inr ⟨_, D', rfl, rfl⟩⟩
set_option tactic.hygienic false in
theorem setItem_dict_ok {d : Addr} {ks : List Key} {vs : List Value} (x : DictIs B s.heap d ks vs) {k : Key} (hk : kindOk k ks = true) (hz : ks.length ≤ 1000) {kv v : Value} (y : KeyIs k kv) {Q : Unit → Shared → Prop}
    (h : ∀ h' tk, DictIs B h' d (putK k v ks vs).1 (putK k v ks vs).2 → Heap.SameBut d s.heap h' → Q () ⟨h', s.gens, s.drawn, tk, s.os⟩) : wpAny (BM B) A (setItem (.ref d) kv v) Q no s := by
  cases k with
  | i n =>
    obtain ⟨kvs, D, rfl, rfl⟩ := dict_int x (kindOk_int x hk)
    obtain ⟨t, rfl⟩ := y
    refine wpAny_setItem_pairs (intKind_is _ _ _ _) D (fun h' D' hs => h h' _ ?_ hs) (line_ge (by simp at hz; omega))
    rw [putK_int _ _ _ (DictOf.nodup D)]
    exact ⟨x.1, .inl ⟨_, D', rfl, rfl⟩⟩
  | s n =>
    obtain ⟨kvs, D, rfl, rfl⟩ := dict_str x (kindOk_str x hk)
    obtain ⟨t, rfl⟩ := y
    refine wpAny_setItem_pairs (strKind_is _ _ _ _) D (fun h' D' hs => h h' _ ?_ hs) (line_ge (by simp at hz; omega))
    rw [putK_str _ _ _ (DictOf.nodup D)]
    exact ⟨x.1, .inr ⟨_, D', rfl, rfl⟩⟩


/-  a machine's own place changed -/
set_option tactic.hygienic false in
theorem Inv.setFree {h' : Heap} (I : Inv B g σ s.heap) {d : Addr} (nz : ¬ g.Z d) (no : ¬ Owned g σ d) (hs : Heap.SameBut d s.heap h') : Inv B g σ h' ∧ Ext (· = d) g σ s.heap g σ h' := by
  have zk : ∀ a o, g.Z a → s.heap.get? a = some o → h'.get? a = some o := fun a o z e => (hs.2 a (fun w => nz (w ▸ z))).trans e
  have nd : ∀ i a, OwnA g σ i a → a ≠ d := fun i a o w => no (w ▸ ⟨i, o⟩)
  refine ⟨⟨hs.1 ▸ I.sm, fun a o e => zk a o (I.zbase a o e) (I.stays a o e), I.zbase, fun a z => hs.1 ▸ I.zlt a z, fun i o e => ?_, I.inj, I.nz⟩, ?_⟩
  · exact (I.obj i o e).carry (lt_of_some e) e (fun t v => Rep.mono (fun _ z => z) zk t v) (fun t v => RepL.mono (fun _ z => z) zk t v) (fun a o' ob q => (hs.2 a (nd i a o')).trans q) (fun _ _ => rfl) (fun _ _ => rfl) (Nat.le_refl _)
  · exact ⟨Nat.le_of_eq hs.1.symm, fun a o e _ nx => (hs.2 a nx).trans e, fun _ z => z, fun a z => .inl z, fun _ _ => rfl, Nat.le_refl _, fun _ x => .inl x, zk⟩
/-  many of the machine's places changed or made; the heap has not shrunk -/
set_option tactic.hygienic false in
theorem Inv.setFrees {h' : Heap} (I : Inv B g σ s.heap) {X : Addr → Prop} (nz : ∀ a, X a → ¬ g.Z a) (no : ∀ a, X a → ¬ Owned g σ a) (hk : ∀ a o, ¬ X a → s.heap.get? a = some o → h'.get? a = some o) (sz : s.heap.objs.size ≤ h'.objs.size) :
    Inv B g σ h' ∧ Ext X g σ s.heap g σ h' := by
  have zk : ∀ a o, g.Z a → s.heap.get? a = some o → h'.get? a = some o := fun a o z e => hk a o (fun w => nz a w z) e
  have nd : ∀ i a, OwnA g σ i a → ¬ X a := fun i a o w => no a w ⟨i, o⟩
  refine ⟨⟨Nat.lt_of_lt_of_le I.sm sz, fun a o e => zk a o (I.zbase a o e) (I.stays a o e), I.zbase, fun a z => Nat.lt_of_lt_of_le (I.zlt a z) sz, fun i o e => ?_, I.inj, I.nz⟩, ?_⟩
  · exact (I.obj i o e).carry (lt_of_some e) e (fun t v => Rep.mono (fun _ z => z) zk t v) (fun t v => RepL.mono (fun _ z => z) zk t v) (fun a o' ob q => hk a ob (nd i a o') q) (fun _ _ => rfl) (fun _ _ => rfl) (Nat.le_refl _)
  · exact ⟨sz, fun a o e _ nx => hk a o nx e, fun _ z => z, fun a z => .inl z, fun _ _ => rfl, Nat.le_refl _, fun _ x => .inl x, zk⟩
/-- places that did not stand at the start need not be named -/
theorem Ext.forget {X : Addr → Prop} {g₀ g : Gh} {σ₀ σ : Sg} {h₀ h : Heap} (x : Ext X g₀ σ₀ h₀ g σ h) {Y : Addr → Prop} (hX : ∀ a, X a → Y a ∨ h₀.objs.size ≤ a) : Ext Y g₀ σ₀ h₀ g σ h :=
  ⟨x.size, fun a o e n ny => x.keep a o e n (fun q => (hX a q).elim ny fun l => absurd (Heap.lt_size e) (Nat.not_lt_of_le l)), x.zm, x.zn, x.ag, x.len, x.on, x.zk⟩

/-- the pairs stored one by one into a free dict -/
theorem storeAll_ok {d : Addr} : ∀ (l : List (Key × T)) {ks : List Key} {ts : List T} {vs : List Value} {ks' : List Key} {ts' : List T} {ps : List (Value × Value)} {s : Shared} (_ : Inv B g σ s.heap) (_ : ¬ g.Z d) (_ : ¬ Owned g σ d) (_ : DictIs B s.heap d ks vs) (_ : RepL B g.Z s.heap ts vs)
    (_ : PRel B g.Z s.heap l ps) (_ : dictOfPairs l (ks, ts) = some (ks', ts')),
    wpAny (BM B) A (storeAll d ps) (fun _ s' => Ext (· = d) g σ s.heap g σ s'.heap ∧ Inv B g σ s'.heap ∧ SameRest s s' ∧ ∃ vs', DictIs B s'.heap d ks' vs' ∧ RepL B g.Z s'.heap ts' vs') no s
  | [], ks, ts, vs, ks', ts', ps, s, I, nz, nno, x, r, p, e => by
    first | exact nn e | exact nf e | first | exact nn e | exact nf e | cases e
    rw [show ps = [] from p]
    unfold storeAll
    rw [List.forIn_nil]
    exact wpAny_pure ⟨Ext.refl, I, SameRest.refl, vs, x, r⟩
  | (k, t) :: l, ks, ts, vs, ks', ts', ps, s, I, nz, nno, x, r, xx, e => by
    obtain ⟨kv, v, ps', e1, hk, hr, hp⟩ := xx
    subst e1
    unfold dictOfPairs at e
    split at e
    · rename_i d' e2
      obtain ⟨h1, h2, rfl⟩ := putD_some e2
      unfold storeAll
      rw [List.forIn_cons]
      refine wpAny_bind (wpAny_bind (set_dict_ok x h1 h2 hk fun h' tk D hs => wpAny_pure ?_))
      obtain ⟨I', x'⟩ := I.setFree nz nno hs
      have y := putK_rep (B := B) (Z := g.Z) (h := h') k (x'.rep hr) (x'.repL r) (ks := ks)
      rw [← y.1] at D
      have hp' : PRel B g.Z h' l ps' := by
        clear D y
        clear e e2 h1 h2 r x hk hr
        induction l generalizing ps' with
        | nil => exact hp
        | cons q l ih => obtain ⟨q1, q2⟩ := q; obtain ⟨kv, v, r, e, a, b, c⟩ := hp; exact ⟨kv, v, r, e, a, x'.rep b, ih _ c⟩
      refine wpAny_mono (storeAll_ok l (s := ⟨h', s.gens, s.drawn, tk, s.os⟩) I' nz nno D y.2 hp' e) (fun _ s' ⟨x₂, I₂, r₂, z⟩ => ⟨x'.trans I I' x₂, I₂, SameRest.trans ⟨rfl, rfl, rfl⟩ r₂, z⟩) fun _ _ y => y
    · first | exact nn e | exact nf e | first | exact nn e | exact nf e | cases e

set_option tactic.hygienic false in
theorem dict_ok (S : Snd B R n) (hb : Bnd A n) (N : EnvOk cx env) (I : Inv B g σ s.heap) (F : FrameOk B env g σ s.heap Γ) {ks : List (Option Expr)} {vs : List Expr} {pos : Pos} {l : List (Key × T)} {ks' : List Key} {ts' : List T}
    (hl : ks.length ≤ 15) (e1 : dictE R cx Γ σ ks vs = some (l, σ')) (e2 : dictOfPairs l ([], []) = some (ks', ts')) :
    wpAny (BM B) A (eval (.Dict ks vs pos) env) (PE B g σ s (.own σ'.length) (σ' ++ [.dict ks' ts'])) no s := by
  obtain ⟨hall, hlen, hll⟩ := dictE_len ks vs e1
  have K := push_keeps s.heap ({ cls := .type "dict", data := .dict #[] } : Obj)
  obtain ⟨I₀, x₀⟩ := I.grow0 (h' := s.heap.push { cls := .type "dict", data := .dict #[] }) K (by simp)
  have fr : Free g σ (s.heap.push { cls := .type "dict", data := .dict #[] }) s.heap.objs.size := I.free_new (Nat.le_refl _) (by simp)
  have D0 : DictIs B (s.heap.push { cls := .type "dict", data := .dict #[] }) s.heap.objs.size [] [] :=
    ⟨by rw [beq_eq_false_iff_ne]; exact Nat.ne_of_gt I.sm, .inl ⟨[], Heap.DictOf.new _, rfl, rfl⟩⟩
  by_cases h0 : ks = []
  · subst h0
    have : vs = [] := by cases vs with | nil => rfl | cons v vs => simp at hlen
    subst this
    first | exact nn e1 | exact nf e1 | first | exact nn e1 | exact nf e1 | cases e1
    first | exact nn e2 | exact nf e2 | first | exact nn e2 | exact nf e2 | cases e2
    refine wpAny_Dict_empty ?_
    obtain ⟨g', I', x', er, ez⟩ := I.newOwn (h' := s.heap.push { cls := .type "dict", data := .dict #[] }) K (by simp) s.heap.objs.size s.heap.objs.size (Nat.le_refl _) (Nat.le_refl _) (.dict [] [])
      ⟨[], by dsimp only; rw [if_pos rfl]; exact D0, rfl⟩
    exact ⟨g', x', I', ⟨by rw [List.length_append]; simp, by rw [er]⟩, rfl, rfl, rfl⟩
  · refine wpAny_Dict_any hall hlen h0 hl ?_
    refine wpAny_mono (pairs_ok S hb N pos ks vs (s := { s with heap := s.heap.push { cls := .type "dict", data := .dict #[] } }) I₀ (F.ext x₀) e1) (fun ps s₁ ⟨g₁, x₁, I₁, pr, r₁⟩ => ?_) fun _ _ y => y
    have f₁ := fr.ext x₁
    have D1 : DictIs B s₁.heap s.heap.objs.size [] [] := D0.keep fun o q => x₁.keep _ o q fr.no id
    refine wpAny_mono (storeAll_ok l I₁ f₁.nz f₁.no D1 (show RepL B g₁.Z s₁.heap [] [] from rfl) pr e2) (fun _ s₂ ⟨x₂, I₂, r₂, vs', D2, rv⟩ => ?_) fun _ _ y => y
    have x01 : Ext (· = s.heap.objs.size) g σ s.heap g₁ σ' s₁.heap := (x₀.trans I I₀ x₁).weaken fun _ q => q.elim
    have x02 : Ext (fun _ => False) g σ s.heap g₁ σ' s₂.heap := (x01.trans I I₁ x₂).forget fun a q => .inr (Nat.le_of_eq q.symm)
    have f₂ := f₁.ext x₂
    obtain ⟨g', I', x', er, ez⟩ := I.adopt x02 I₂ (Nat.le_refl _) (Nat.le_refl _) f₂ f₂ (.dict ks' ts') ⟨vs', by dsimp only; rw [if_pos rfl]; exact D2, rv⟩
    exact ⟨g', x', I', ⟨by rw [List.length_append]; simp, by rw [er]⟩, (SameRest.trans ⟨rfl, rfl, rfl⟩ r₁).trans r₂⟩
end
end Mine
end
section
set_option maxRecDepth 100000
set_option autoImplicit false
namespace Mine
open PySem PySem.W PyProof.Rows

set_option tactic.hygienic false in
theorem isStr_key {n q : Str} {k : Tok} : Value.isStr (.str q k) n = sEq n q := by
  rw [sEq_beq]; show (q == n) = (n == q); exact BEq.comm
set_option tactic.hygienic false in
theorem fields_getL {n : Str} : ∀ {ns : List Str} {vs : List Value} {es : List DictEntry}, FieldsAre ns vs es → getL n es = some (lkN n ns vs)
  | [], [], [], _ => rfl
  | q :: ns, v :: vs, e :: es, xx => by
    obtain ⟨⟨k, hk⟩, hv, r⟩ := xx
    have ih := fields_getL (n := n) r
    have hr : e.refKey = false := by unfold DictEntry.refKey; rw [hk]
    unfold getL at ih ⊢
    rw [List.find?_cons, List.any_cons, hr, hk, isStr_key, lkN_cons, Bool.false_or]
    induction h : sEq n q using Bool.casesOn with
    | true => simp only [hv]
    | false => exact ih
  | [], [], _ :: _, x => x.elim
  | [], _ :: _, _, x => x.elim
  | _ :: _, [], _, x => x.elim
  | _ :: _, _ :: _, [], x => x.elim
theorem fields_len : ∀ {ns : List Str} {vs : List Value} {es : List DictEntry}, FieldsAre ns vs es → es.length = ns.length
  | [], [], [], _ => rfl
  | q :: ns, v :: vs, e :: es, xx => by obtain ⟨_, _, r⟩ := xx; simp [fields_len r]
  | [], [], _ :: _, x => x.elim
  | [], _ :: _, _, x => x.elim
  | _ :: _, [], _, x => x.elim
  | _ :: _, _ :: _, [], x => x.elim
theorem fields_putL {n : Str} {hsh : Int} {k : Tok} {v : Value} : ∀ {ns : List Str} {vs : List Value} {es : List DictEntry}, FieldsAre ns vs es →
    FieldsAre (Mine.putN n v ns vs).1 (Mine.putN n v ns vs).2 (putL n hsh (.str n k) v es)
  | [], [], [], _ => ⟨⟨k, rfl⟩, rfl, trivial⟩
  | q :: ns, u :: vs, e :: es, xx => by
    obtain ⟨⟨k', hk⟩, hv, r⟩ := xx
    rw [putN_cons]; unfold putL
    rw [hk, isStr_key]
    induction h : sEq n q using Bool.casesOn with
    | true => exact ⟨⟨k', rfl⟩, rfl, r⟩
    | false => exact ⟨⟨k', hk⟩, hv, fields_putL r⟩
  | [], [], _ :: _, x => x.elim
  | [], _ :: _, _, x => x.elim
  | _ :: _, [], _, x => x.elim
  | _ :: _, _ :: _, [], x => x.elim
theorem putN_len {α : Type} {n : Str} {v : α} : ∀ {ns : List Str} {vs : List α}, (Mine.putN n v ns vs).1.length ≤ ns.length + 1
  | [], vs => by cases vs <;> exact Nat.le_refl 1
  | q :: ns, [] => Nat.succ_le_succ (Nat.zero_le _)
  | q :: ns, u :: vs => by
    rw [putN_cons]
    cases sEq n q with
    | true => simp
    | false => simpa using putN_len

section
variable {B : Base} {g : Gh} {σ σ' : Sg} {A : Around} {s : Shared} {h : Heap}
theorem lkN_rep {Z : Addr → Prop} {n : Str} : ∀ {ns : List Str} {ts : List T} {vs : List Value} {t : T}, RepL B Z h ts vs → lkN n ns ts = some t → ∃ v, lkN n ns vs = some v ∧ Rep B Z h t v
  | [], _, _, _, _, e => nn e
  | _ :: _, [], _, _, _, e => nn e
  | q :: ns, t :: ts, _, t', xx, e => by
    obtain ⟨v, r, ev, x, y⟩ := xx
    subst ev
    rw [lkN_cons] at e ⊢
    induction q2 : sEq n q using Bool.casesOn with
    | true => rw [q2] at e; cases e; exact ⟨v, rfl, x⟩
    | false => rw [q2] at e; exact lkN_rep y e
theorem lkN_av {n : Str} : ∀ {ns : List Str} {ts : List AV} {vs : List Value} {t : AV}, AVals B g h σ ts vs → lkN n ns ts = some t → ∃ v, lkN n ns vs = some v ∧ AVal B g h σ t v
  | [], _, _, _, _, e => nn e
  | _ :: _, [], _, _, _, e => nn e
  | q :: ns, t :: ts, _, t', xx, e => by
    obtain ⟨v, r, ev, x, y⟩ := xx
    subst ev
    rw [lkN_cons] at e ⊢
    induction q2 : sEq n q using Bool.casesOn with
    | true => rw [q2] at e; cases e; exact ⟨v, rfl, x⟩
    | false => rw [q2] at e; exact lkN_av y e
theorem putN_av {n : Str} {a : AV} {v : Value} (z : AVal B g h σ a v) : ∀ {ns : List Str} {ts : List AV} {vs : List Value}, AVals B g h σ ts vs → (Mine.putN n a ns ts).1 = (Mine.putN n v ns vs).1 ∧ AVals B g h σ (Mine.putN n a ns ts).2 (Mine.putN n v ns vs).2
  | [], ts, vs, x => by cases ts <;> cases vs <;> exact ⟨rfl, v, [], rfl, z, rfl⟩
  | q :: ns, [], vs, x => by rw [show vs = [] from x]; exact ⟨rfl, v, [], rfl, z, rfl⟩
  | q :: ns, t :: ts, _, xx => by
    obtain ⟨u, r, ev, x, y⟩ := xx
    subst ev
    rw [putN_cons, putN_cons]
    cases sEq n q with
    | true => exact ⟨rfl, v, r, rfl, z, y⟩
    | false => exact ⟨by simp only [(putN_av z y).1], u, _, rfl, x, (putN_av z y).2⟩

set_option tactic.hygienic false in
theorem rep_handed {Z : Addr → Prop} {t : T} {v : Value} (x : Rep B Z h t v) : handedIn v = true := by
  induction t using T.casesOn with
  | bi b => rw [show v = biV b from x]; cases b <;> decide +kernel
  | none => rw [show v = _ from x]; rfl
  | bool b => rw [show v = _ from x]; rfl
  | int n => obtain ⟨k, rfl⟩ := x; rfl
  | str n => obtain ⟨k, rfl⟩ := x; rfl
  | bytes n => obtain ⟨k, rfl⟩ := x; rfl
  | fn n => rw [show v = _ from x]; rfl
  | cls n => rw [show v = _ from x]; rfl
  | list n => obtain ⟨k, vs, rfl, _⟩ := x; rfl
  | tup n => obtain ⟨k, vs, rfl, _⟩ := x; rfl
  | dict n m => obtain ⟨k, vs, rfl, _⟩ := x; rfl
  | inst c n m => obtain ⟨k, d, vs, rfl, _⟩ := x; rfl
set_option tactic.hygienic false in
theorem av_handed {a : AV} {v : Value} (x : AVal B g h σ a v) : handedIn v = true := by
  induction a using AV.casesOn with
  | t t => exact rep_handed x
  | own i => rw [x.2]; rfl

theorem Facts.now (W : Facts B) (I : Inv B g σ s.heap) : B.K.In s.heap := W.kin.keeps I.stays

theorem instAt {C x d : Addr} {es : List DictEntry} {n : Nat} (h1 : h.get? x = some (instObj C d)) (h2 : h.get? d = some (dictOf es n)) : PySem.W.InstAt h x (instObj C d) C (some (dictOf es n)) := ⟨h1, rfl, rfl, h2⟩

set_option tactic.hygienic false in
theorem getattr_ok (W : Facts B) (I : Inv B g σ s.heap) {c : CN} {n : Str} {x d : Addr} {ns : List Str} {vs : List Value} {v : Value} (hm : memS n (CN.flds c) = true) (y : InstIs s.heap (B.ca c) x d ns vs) (hl : lkN n ns vs = some v) (hh : handedIn v = true)
    {expr : Bool} {Q : Value → Shared → Prop} (q : Q v { s with toks := s.toks + 1 }) : wpAny (BM B) A (getAttr (.ref x) n expr) Q no s := by
  obtain ⟨h1, es, k, h2, h3⟩ := y
  obtain ⟨p1, p2, p3, p4⟩ := W.cget c n hm
  exact get_value (W.now I) (instAt h1 h2) (plainGet_of p1).1 (findObj_own p2 p3 rfl (by rw [lookIn_dict, fields_getL h3, hl])) hh q

theorem getA_ok (W : Facts B) (I : Inv B g σ s.heap) {a r : AV} {v : Value} (x : AVal B g s.heap σ a v) {n : Str} (e : getA n σ a = some r) {expr : Bool} : wpAny (BM B) A (getAttr v n expr) (PE B g σ s r σ) no s := by
  have tree : ∀ {t : T} {v : Value} {u : T}, Rep B g.Z s.heap t v → getT n t = some u → wpAny (BM B) A (getAttr v n expr) (PE B g σ s (.t u) σ) no s := by
    intro t v u x e
    unfold getT at e
    split at e
    · rename_i c ns ts
      split at e
      · rename_i hm
        obtain ⟨x, d, vs, rfl, z1, z2, hi, hr⟩ := x
        obtain ⟨v, hv, rv⟩ := lkN_rep hr e
        exact getattr_ok W I hm hi hv (rep_handed rv) (PE.rep I rv)
      · first | exact nn e | exact nf e | first | exact nn e | exact nf e | cases e
    · first | exact nn e | exact nf e | first | exact nn e | exact nf e | cases e
  induction a using AV.casesOn with
  | t t =>
    obtain ⟨u, hu, rfl⟩ := Option.map_eq_some_iff.mp e
    exact tree x hu
  | own i =>
    obtain ⟨hi, rfl⟩ := x
    unfold getA at e
    dsimp only at e
    split at e
    · rename_i c ns as q
      split at e
      · rename_i hm
        obtain ⟨ne, vs, p, av⟩ := I.obj i _ q
        obtain ⟨v, hv, rv⟩ := lkN_av av e
        exact getattr_ok W I hm p hv (av_handed rv) (PE.here I rv rfl ⟨rfl, rfl, rfl⟩)
      · first | exact nn e | exact nf e | first | exact nn e | exact nf e | cases e
    · rename_i t q
      obtain ⟨u, hu, rfl⟩ := Option.map_eq_some_iff.mp e
      exact tree (I.obj i _ q) hu
    · first | exact nn e | exact nf e | first | exact nn e | exact nf e | cases e

/-- a field stored -/
theorem setattr_ok (W : Facts B) (I : Inv B g σ s.heap) {c : CN} {n : Str} {x d : Addr} {ns : List Str} {vs : List Value} {v : Value} (hm : memS n (CN.flds c) = true) (hz : ns.length ≤ 1000) (y : InstIs s.heap (B.ca c) x d ns vs) (hne : x ≠ d)
    {Q : Unit → Shared → Prop} (q : ∀ h' tk, InstIs h' (B.ca c) x d (Mine.putN n v ns vs).1 (Mine.putN n v ns vs).2 → Heap.SameBut d s.heap h' → Q () ⟨h', s.gens, s.drawn, tk, s.os⟩) :
    wpAny (BM B) A (setAttr (.ref x) n v) Q no s := by
  obtain ⟨h1, es, k, h2, h3⟩ := id y
  obtain ⟨p1, p2, p3, p4⟩ := W.cget c n hm
  obtain ⟨p5, p6⟩ := W.cset c n hm
  have X := W.now I
  have IA := instAt h1 h2
  refine set_plain X IA p5 ?_
  refine osa_open (s := { s with toks := s.toks + 1 }) X IA p6 p4 fun b => ?_
  obtain ⟨cd, hc, hd'⟩ := any_some p2
  have Lc : Looks (BM B) ({ s with toks := s.toks + 1 } : Shared).heap (classData (B.ca c)) cd := looks_clsIn X hc
  refine wpAny_bind (wpAny_pure (wpAny_bind (wpAny_bind (wpAny_loadPart h1 (wpAny_bind (Lc.here ?_))))))
  rw [hd']
  refine wpAny_pure (a := some d) (wpAny_bind (wpAny_pure (wpAny_bind ?_)))
  unfold nsSet
  refine wpAny_bind (wpAny_bind (wpAny_askSetting (wpAny_pure (wpAny_bind (wpAny_mkText (wpAny_bind (wpAny_loadPart h2 ?_)))))))
  have hl := fields_getL (n := n) h3
  have c0 : (!(es.toArray).any (·.key.isStr n) && (es.toArray).any (·.refKey)) = false := by
    rw [← Array.any_toList, ← Array.any_toList]
    dsimp only
    unfold getL at hl
    split at hl
    · rename_i en he
      rw [List.any_eq_true.mpr ⟨en, List.mem_of_find?_eq_some he, List.find?_some he⟩]; rfl
    · split at hl
      · cases hl
      · rename_i z; rw [Bool.not_eq_true] at z; rw [z, Bool.and_false]
  dsimp only
  rw [aRefKeyMayBeTheName_at, c0]
  refine wpAny_updatePart h2 ?_
  have e1 := putName_dict n (PyData.keyHash B.w.params n) (.str n (s.toks + 1)) v es k
  have hfr : (Obj.putName n (PyData.keyHash B.w.params n) (.str n (s.toks + 1)) v (dictOf es k)).isFreed = false := by rw [e1]; rfl
  have hs : Heap.SameBut d s.heap (s.heap.update d (Obj.putName n (PyData.keyHash B.w.params n) (.str n (s.toks + 1)) v)) := Heap.SameBut.update ..
  have D' : (s.heap.update d (Obj.putName n (PyData.keyHash B.w.params n) (.str n (s.toks + 1)) v)).get? d = some (dictOf (putL n (PyData.keyHash B.w.params n) (.str n (s.toks + 1)) v es) (PySem.W.putN n es k)) := by
    rw [← e1]; exact Heap.get?_update_self _ h2 hfr
  have f' := fields_putL (n := n) (hsh := PyData.keyHash B.w.params n) (k := s.toks + 1) (v := v) h3
  have len' := fields_len f'
  have len2 := putN_len (n := n) (v := v) (ns := ns) (vs := vs)
  refine wpAny_bind (wpAny_lookBehind D' (pastItsLine_dict (by rw [List.size_toArray, sizeLine_eq]; omega)) ?_)
  refine wpAny_pure (q _ _ ⟨(hs.2 x hne).trans h1, _, _, D', f'⟩ hs)
end
end Mine
end
section
set_option maxRecDepth 100000
set_option autoImplicit false
namespace Mine
open PySem PySem.W PyProof.Rows

section
variable {B : Base} {R : Rec} {n : Nat} {g : Gh} {σ σ' σ₁ σ₂ : Sg} {A : Around} {s s₁ s₂ : Shared} {env : Env} {cx : Cx} {Γ : Ga}

set_option tactic.hygienic false in
theorem PE.newList (I : Inv B g σ s.heap) {h' : Heap} {tk : Nat} (k : ∀ a o, s.heap.get? a = some o → h'.get? a = some o) (sz : s.heap.objs.size ≤ h'.objs.size) {a : Addr} (ha : s.heap.objs.size ≤ a) {ts : List T} {vs : List Value}
    (hl : h'.PlainList a (List.toArray vs)) (r : RepL B g.Z s.heap ts vs) : PE B g σ s (.own σ.length) (σ ++ [.list ts]) (.ref a) ⟨h', s.gens, s.drawn, tk, s.os⟩ := by
  obtain ⟨g', I', x, e, z⟩ := I.newOwn k sz a a ha ha (.list ts) ⟨vs, by dsimp only; rw [if_pos rfl]; exact hl, RepL.mono (fun _ z => z) (fun a o _ e => k a o e) _ _ r⟩
  exact ⟨g', x, I', ⟨by rw [List.length_append]; simp, by rw [e]⟩, rfl, rfl, rfl⟩
set_option tactic.hygienic false in
theorem PE.newDict (I : Inv B g σ s.heap) {h' : Heap} {tk : Nat} (k : ∀ a o, s.heap.get? a = some o → h'.get? a = some o) (sz : s.heap.objs.size ≤ h'.objs.size) {a : Addr} (ha : s.heap.objs.size ≤ a) {ks : List Key} {ts : List T} {vs : List Value}
    (hl : DictIs B h' a ks vs) (r : RepL B g.Z s.heap ts vs) : PE B g σ s (.own σ.length) (σ ++ [.dict ks ts]) (.ref a) ⟨h', s.gens, s.drawn, tk, s.os⟩ := by
  obtain ⟨g', I', x, e, z⟩ := I.newOwn k sz a a ha ha (.dict ks ts) ⟨vs, by dsimp only; rw [if_pos rfl]; exact hl, RepL.mono (fun _ z => z) (fun a o _ e => k a o e) _ _ r⟩
  exact ⟨g', x, I', ⟨by rw [List.length_append]; simp, by rw [e]⟩, rfl, rfl, rfl⟩

set_option tactic.hygienic false in
theorem plainBase_eq {o : Expr} {name : Str} (h : plainBase o = true) : attributeBase o name env (eval o env) = eval o env := by
  induction o using PySem.Expr.casesOn with
  | Call f as ks p => induction f using PySem.Expr.casesOn with
    | Name x q => induction as using List.casesOn with
      | nil => induction ks using List.casesOn with
        | nil => first | exact nn h | exact nf h | first | exact nn h | exact nf h | cases h
        | cons _ _ => rfl
      | cons _ _ => rfl
    | _ => rfl
  | _ => rfl

set_option tactic.hygienic false in
theorem attrE_ok (W : Facts B) (S : Snd B R n) (hb : Bnd A n) (N : EnvOk cx env) (I : Inv B g σ s.heap) (F : FrameOk B env g σ s.heap Γ) {o : Expr} {name : Str} {pos : Pos} {a r : AV} (hp : plainBase o = true)
    (h1 : R.e cx Γ σ o = some (a, σ₁)) (h2 : getA name σ₁ a = some r) : wpAny (BM B) A (eval (.Attribute o name pos) env) (PE B g σ s r σ₁) no s := by
  rw [arm_eval_Attribute, plainBase_eq hp]
  refine wpAny_bind (goE (S.e _ _ _ _ _ _ h1 A env g s hb N I F) fun v s₁ g₁ x₁ I₁ r₁ av => ?_)
  refine wpAny_bind (wpAny_standAt (wpAny_bind (wpAny_holding ?_)))
  refine wpAny_mono (PE.into I x₁ I₁ r₁ (getA_ok W I₁ av h2)) (fun w s₂ q => ?_) fun _ _ y => y
  exact wpAny_bind (wpAny_letTemporaryGo (wpAny_pure q))

set_option tactic.hygienic false in
theorem notSlice_sub {i : Expr} (h : notSlice i = true) (o k : Value) : subscripted i false o k = operate [o, k] (getItem o k) := by
  induction i using PySem.Expr.casesOn with
  | Slice => first | exact nn h | exact nf h | first | exact nn h | exact nf h | cases h
  | _ => rfl

set_option tactic.hygienic false in
theorem itemL_inv {ts : List T} {n : Int} {t : T} (e : (if decide (0 ≤ n) && decide (n < 100000) then ts[n.toNat]? else none) = some t) : 0 ≤ n ∧ n < 100000 ∧ ts[n.toNat]? = some t := by
  by_cases q : (decide (0 ≤ n) && decide (n < 100000)) = true
  · rw [if_pos q] at e
    have q := Bool.and_eq_true_iff.mp q
    exact ⟨of_decide_eq_true q.1, of_decide_eq_true q.2, e⟩
  · rw [if_neg q] at e; exact nn e
set_option tactic.hygienic false in
theorem itemT_ok (I : Inv B g σ s.heap) {o i t : T} (e : itemT o i = some t) {v u : Value} (hv : Sees B g s.heap o v) (hu : Rep B g.Z s.heap i u) {value slice : Expr} (hs : notSlice slice = true) :
    wpAny (BM B) A (subscriptTail value slice v u) (PE B g σ s (.t t) σ) no s := by
  refine pgen fun P hP => ?_
  induction o using T.casesOn with
  | list ts => induction i using T.casesOn with
    | int n =>
      obtain ⟨q1, q2, e⟩ := itemL_inv (show (if decide (0 ≤ n) && decide (n < 100000) then ts[n.toNat]? else none) = some t from e)
      obtain ⟨a, vs, rfl, p, r⟩ := hv
      obtain ⟨k, rfl⟩ := hu
      obtain ⟨w, hw, rw'⟩ := r.get e
      refine hP (tail_any p.isList.typeIs slot_list_getitem.lookup (wpAny_getItem_list p.isList q1 (by omega) (by simpa using hw) (PE.rep I rw')) (notSlice_sub hs _ _))
    | _ => exact nn e
  | tup ts => induction i using T.casesOn with
    | int n =>
      obtain ⟨q1, q2, e⟩ := itemL_inv (show (if decide (0 ≤ n) && decide (n < 100000) then ts[n.toNat]? else none) = some t from e)
      have hv : Rep B g.Z s.heap (.tup ts) v := hv
      obtain ⟨a, vs, rfl, z, p, r⟩ := hv
      obtain ⟨k, rfl⟩ := hu
      obtain ⟨w, hw, rw'⟩ := r.get e
      have hlt : n.toNat < vs.length := lt_of_some hw
      refine hP (tail_any p.isTup.typeIs slot_tuple_getitem.lookup (PyProof.Rows.getItem_tuple p.isTup (j := n.toNat) (by omega) (by omega) ?_ (by simpa using hw) (PE.rep I rw')) (notSlice_sub hs _ _))
      have hz : (vs.toArray.size) = vs.length := by simp
      rw [hz]
      unfold seqIndex?
      simp only [show ¬ n < 0 by omega, if_false]
      rw [if_pos (by simp; omega)]
    | _ => exact nn e
  | dict ks ts =>
    have e : (match keyOf i with
      | some k => match lkD k ks ts with
        | some r => r
        | none => none
      | none => none) = some t := e
    induction hk : keyOf i using Option.casesOn with
    | none => rw [hk] at e; exact nn e
    | some k =>
      rw [hk] at e
      dsimp only at e
      induction hr : lkD k ks ts using Option.casesOn with
      | none => rw [hr] at e; exact nn e
      | some r =>
        rw [hr] at e
        have e : r = some t := e
        subst e
        obtain ⟨ok, e2⟩ := lkD_some hr
        obtain ⟨a, vs, rfl, p, q⟩ := hv
        obtain ⟨w, hw, rw'⟩ := (lkK_rep k q).1 _ e2
        obtain ⟨K, _, knd, k', kvs, h1, h2, h3⟩ := ask_dict p ok (keyOf_is hk hu)
        exact hP (tail_any h2.mapOf.typeIs slot_dict_getitem.lookup (wpAny_getItem_of h1 h2.mapOf (h3.trans hw) (PE.rep I rw')) (notSlice_sub hs _ _))
  | _ => exact nn e

set_option tactic.hygienic false in
theorem subE_ok (S : Snd B R n) (hb : Bnd A n) (N : EnvOk cx env) (I : Inv B g σ s.heap) (F : FrameOk B env g σ s.heap Γ) {o i : Expr} {pos : Pos} {a : AV} {k t u : T} (hs : notSlice i = true)
    (h1 : R.e cx Γ σ o = some (a, σ₁)) (h2 : R.e cx Γ σ₁ i = some (.t k, σ₂)) (h3 : look σ₂ a = some t) (h4 : itemT t k = some u) : wpAny (BM B) A (eval (.Subscript o i pos) env) (PE B g σ s (.t u) σ₂) no s := by
  rw [arm_eval_Subscript]
  refine wpAny_bind (goE (S.e _ _ _ _ _ _ h1 A env g s hb N I F) fun v s₁ g₁ x₁ I₁ r₁ av => ?_)
  refine wpAny_bind (wpAny_holding (goE (S.e _ _ _ _ _ _ h2 A env g₁ s₁ hb N I₁ (F.ext x₁)) fun u s₂ g₂ x₂ I₂ r₂ av₂ => ?_))
  refine wpAny_bind (wpAny_standAt ?_)
  exact PE.into I (x₁.trans I I₁ x₂) I₂ (r₁.trans r₂) (itemT_ok I₂ h4 (look_ok I₂ (x₂.aval av) h3) av₂ hs)

set_option tactic.hygienic false in
theorem sliceE_ok (S : Snd B R n) (hb : Bnd A n) (N : EnvOk cx env) (I : Inv B g σ s.heap) (F : FrameOk B env g σ s.heap Γ) {o u : Expr} {pos p : Pos} {a : AV} {k : Int} {ts : List T}
    (h1 : R.e cx Γ σ o = some (a, σ₁)) (h2 : R.e cx Γ σ₁ u = some (.t (.int k), σ₂)) (h3 : look σ₂ a = some (.list ts)) (h0 : 0 ≤ k) (hz : sizeOk ts.length = true) :
    wpAny (BM B) A (eval (.Subscript o (.Slice none (some u) none p) pos) env) (PE B g σ s (.own σ₂.length) (σ₂ ++ [.list (ts.take k.toNat)])) no s := by
  rw [arm_eval_Subscript]
  refine wpAny_bind (goE (S.e _ _ _ _ _ _ h1 A env g s hb N I F) fun v s₁ g₁ x₁ I₁ r₁ av => ?_)
  refine wpAny_bind (wpAny_holding (wpAny_Slice (wpAny_pure ?_)))
  refine goE (S.e _ _ _ _ _ _ h2 A env g₁ s₁ hb N I₁ (F.ext x₁)) fun uv s₂ g₂ x₂ I₂ r₂ av₂ => ?_
  refine wpAny_pure ?_
  obtain ⟨tk, rfl⟩ := av₂
  obtain ⟨l, vs, rfl, pl, rl⟩ := look_ok I₂ (x₂.aval av) h3
  refine wpAny_bind (wpAny_standAt ?_)
  have hl := rl.length
  have hsz := sizeOk_le hz
  have fin : PE B g σ s (.own σ₂.length) (σ₂ ++ [.list (ts.take k.toNat)]) (.ref (s₂.heap.push { cls := .type "slice", data := .fields #[.none, .int k tk, .none] }).objs.size)
      ⟨(s₂.heap.push { cls := .type "slice", data := .fields #[.none, .int k tk, .none] }).push { cls := .type "list", data := .seq (slicePick vs.toArray none (some k) none) }, s₂.gens, s₂.drawn, s₂.toks, s₂.os⟩ := by
    refine PE.trans I (x₁.trans I I₁ x₂) I₂ (r₁.trans r₂) ?_
    refine PE.newList I₂ (fun a o e => push_keeps _ _ a o (push_keeps _ _ a o e)) (by simp; omega) (by simp) (vs := vs.take k.toNat) ⟨0, ?_⟩ (rl.take _)
    rw [Heap.get?_push_size _ rfl]
    obtain ⟨m, rfl⟩ : ∃ m : Nat, k = (m : Int) := ⟨k.toNat, by omega⟩
    rw [slicePick_upto']; simp
  have T : ({ s₂ with heap := s₂.heap.push { cls := .type "slice", data := .fields #[.none, .int k tk, .none] } } : Shared).TypeIs (.ref l) "list" := (pl.isList.push _).typeIs
  rw [getitemInPython_of_ne T.not_modules]
  have tail := tail_any (value := o) (slice := .Slice none (some u) none p) (A := A) (E := no) (prog := B.prog) (w := B.w) (i := .ref s₂.heap.objs.size) (ops := [.ref s₂.heap.objs.size, .ref l]) T slot_list_getitem.lookup
    (wpAny_getItem_list_slice (pl.isList.push _) (Heap.IsSliceOf.new ..) .none (.int k tk) .none (by simp) fin (by simp only [List.size_toArray]; exact line_ge (by omega))) rfl
  unfold subscriptTail at tail
  rw [getitemInPython_of_ne T.not_modules] at tail
  exact tail

/-- the arguments of a call, where the callee is kept by the frame or the machine -/
theorem callArgs_gen (S : Snd B R n) (hb : Bnd A n) (N : EnvOk cx env) (pos : Pos) (I : Inv B g σ s.heap) (F : FrameOk B env g σ s.heap Γ) {es : List Expr} {as : List AV} (e : evs R cx Γ σ es = some (as, σ')) {f : Value} {first : List Value} {P : Heap → Prop}
    (hk : ∀ h, P h → ∃ k, (k = Keeper.frame ∨ k = Keeper.machine ∨ k = Keeper.boundFrame) ∧ Looks (BM B) h (keeperOf f) k) (hP : ∀ s₁ g₁, E0 g σ s g₁ σ' s₁ → Inv B g₁ σ' s₁.heap → P s₁.heap) {Q : Value → Shared → Prop}
    (h : ∀ s₁ g₁ vs, E0 g σ s g₁ σ' s₁ → Inv B g₁ σ' s₁.heap → AVals B g₁ s₁.heap σ' as vs → SameRest s s₁ → wpAny (BM B) A (call f (first ++ vs)) Q no s₁) :
    wpAny (BM B) A (callWith pos f first (backTo pos (starEach es env)) []) Q no s := by
  have hstar : ∀ (es : List Expr) {σ : Sg} {as : List AV} {σ' : Sg}, evs R cx Γ σ es = some (as, σ') → (backTo pos (starEach es env)).any (·.1) = false := by
    intro es
    induction es with
    | nil => intro _ _ _ _; rfl
    | cons e r ih =>
      intro σ as σ' q
      unfold evs at q
      split at q
      · rename_i hs
        split at q
        · rename_i a σ₁ q1
          split at q
          · rename_i as' σ₂ q2
            have he : starEach (e :: r) env = (false, eval e env) :: starEach r env := by cases e <;> first | rfl | first | exact nn hs | exact nf hs | cases hs
            rw [he]
            show (false || (backTo pos (starEach r env)).any (·.1)) = false
            rw [ih q2]; rfl
          · first | exact nn q | exact nf q | first | exact nn q | exact nf q | cases q
        · first | exact nn q | exact nf q | first | exact nn q | exact nf q | cases q
      · first | exact nn q | exact nf q | first | exact nn q | exact nf q | cases q
  refine callWith_of (P := P) (by rw [hstar es e]; rfl) hk ?_
  induction es using List.casesOn with
  | nil =>
    first | exact nn e | exact nf e | first | exact nn e | exact nf e | cases e
    exact evalArgs_nil3 ⟨hP s g Ext.refl I, h s g [] Ext.refl I rfl SameRest.refl⟩
  | cons e0 er =>
    have he : starEach (e0 :: er) env = (false, eval e0 env) :: starEach er env := by
      unfold evs at e
      split at e
      · rename_i hs; cases e0 <;> first | rfl | first | exact nn hs | exact nf hs | cases hs
      · first | exact nn e | exact nf e | first | exact nn e | exact nf e | cases e
    have ev := evs_ok S hb N pos (e0 :: er) I F e
    rw [he] at ev ⊢
    refine Calls.evalArgs_plain (wpAny_mono ev (fun vs s₁ ⟨g₁, x, I₁, av, r₁⟩ => ⟨hP s₁ g₁ x I₁, ?_⟩) fun _ _ y => y)
    exact h s₁ g₁ vs x I₁ av r₁
theorem callArgs_ok (S : Snd B R n) (hb : Bnd A n) (N : EnvOk cx env) (pos : Pos) (I : Inv B g σ s.heap) (F : FrameOk B env g σ s.heap Γ) {es : List Expr} {as : List AV} (e : evs R cx Γ σ es = some (as, σ')) {f : Value} {first : List Value} {P : Heap → Prop}
    (hk : ∀ h, P h → ∃ k, (k = Keeper.frame ∨ k = Keeper.machine ∨ k = Keeper.boundFrame) ∧ Looks (BM B) h (keeperOf f) k) (hP : ∀ s₁ g₁, E0 g σ s g₁ σ' s₁ → Inv B g₁ σ' s₁.heap → P s₁.heap) {a : AV} {σ₂ : Sg}
    (h : ∀ s₁ g₁ vs, E0 g σ s g₁ σ' s₁ → Inv B g₁ σ' s₁.heap → AVals B g₁ s₁.heap σ' as vs → wpAny (BM B) A (call f (first ++ vs)) (PE B g₁ σ' s₁ a σ₂) no s₁) :
    wpAny (BM B) A (callWith pos f first (backTo pos (starEach es env)) []) (PE B g σ s a σ₂) no s :=
  callArgs_gen S hb N pos I F e hk hP fun s₁ g₁ vs x I₁ av r₁ => PE.into I x I₁ r₁ (h s₁ g₁ vs x I₁ av)
end
end Mine
end
section
set_option maxRecDepth 100000
set_option autoImplicit false
namespace Mine
open PySem PySem.W PyProof.Rows

/-! the heap never shrinks -/
set_option tactic.hygienic false in
theorem runs_size {M : Model} {Γ : Ctx} {p : Pos} {t : Sem Fin} {fs : List Frame} {s s' : Shared} {e : End} (h : Runs M Γ p t fs s e s') : s.heap.objs.size ≤ s'.heap.objs.size := by
  induction h <;> (try simp only [Shared.setGen, Heap.size_update, Heap.size_push] at *) <;> omega
theorem returns_size {M : Model} {Γ : Ctx} {p : Pos} {s s' : Shared} {r : Result} (h : Returns M Γ p s r s') : s.heap.objs.size ≤ s'.heap.objs.size := runs_size h
set_option tactic.hygienic false in
theorem wakes_size {M : Model} {Γ : Ctx} {p : Pos} {g : Nat} {r : Resume} {s s' : Shared} {res : GenResult} (h : Wakes M Γ p g r s res s') : s.heap.objs.size ≤ s'.heap.objs.size := by
  unfold Wakes at h
  split at h
  · exact h.elim
  · split at h
    · obtain ⟨e₁, s₁, hr, _, _, rfl⟩ := h; exact (runs_size hr : (s.setGen g .running).heap.objs.size ≤ s₁.heap.objs.size)
    · rw [h.2]; exact Nat.le_refl _
    · rw [h.2]; exact Nat.le_refl _
  · obtain ⟨e₁, s₁, hr, _, _, rfl⟩ := h; exact (runs_size hr : (s.setGen g .running).heap.objs.size ≤ s₁.heap.objs.size)
  · rw [h.2]; exact Nat.le_refl _
  · rw [h.2]; exact Nat.le_refl _
open Sem in
set_option tactic.hygienic false in
theorem wp_size {α : Type} (M : Model) (Γ : Ctx) (n : Nat) (t : Sem α) : ∀ (Q : α → Pos → Shared → Prop) (E : Value → Pos → Shared → Prop) (p : Pos) (s : Shared), n ≤ s.heap.objs.size → wp M Γ t Q E p s →
    wp M Γ t (fun a p' s' => n ≤ s'.heap.objs.size ∧ Q a p' s') (fun e p' s' => n ≤ s'.heap.objs.size ∧ E e p' s') p s := by
  induction t with
  | pure a => intro Q E p s hn h; exact ⟨hn, h⟩
  | raise e => intro Q E p s hn h; exact ⟨hn, h⟩
  | unsupported _ => intro Q E p s _ h; exact h
  | finish _ => intro Q E p s _ h; exact h
  | rule _ k ih => intro Q E p s hn h; exact ih () Q E p s hn h
  | «at» p' k ih => intro Q E p s hn h; exact ih () Q E p' s hn h
  | load a _ k ih => intro Q E p s hn h; obtain ⟨o, ho, h⟩ := h; exact ⟨o, ho, ih o Q E p s hn h⟩
  | update a _ f k ih => intro Q E p s hn h; exact ⟨h.1, ih () Q E p _ (by show n ≤ (s.heap.update a f).objs.size; rw [Heap.size_update]; exact hn) h.2⟩
  | loadIfAlive a k ih => intro Q E p s hn h; exact ih _ Q E p s hn h
  | point _ k ih => intro Q E p s hn h; exact ih () Q E p s hn h
  | register _ _ => intro Q E p s _ h; exact h
  | alloc o k ih => intro Q E p s hn h; exact ih _ Q E p _ (by show n ≤ (s.heap.push o).objs.size; rw [Heap.size_push]; exact Nat.le_succ_of_le hn) h
  | fresh k ih => intro Q E p s hn h; exact ih _ Q E p _ hn h
  | ask k ih => intro Q E p s hn h; exact ih _ Q E p s hn h
  | choose src m k ih => intro Q E p s hn h; exact ⟨h.1, ih _ Q E p _ hn h.2⟩
  | os q _ k ih => intro Q E p s hn h; exact ih _ Q E p _ hn h
  | call c hd _ _ k ih => intro Q E p s hn h; obtain ⟨r, s', hr, h⟩ := h; exact ⟨r, s', hr, ih r Q E p s' (Nat.le_trans hn (returns_size hr)) h⟩
  | handled own k ih => intro Q E p s hn h; exact ih _ Q E p s hn h
  | genState g k ih => intro Q E p s hn h; obtain ⟨st, hs, h⟩ := h; exact ⟨st, hs, ih _ Q E p s hn h⟩
  | newGen c k ih => intro Q E p s hn h; exact ih _ Q E p _ hn h
  | resume g r _ k ih => intro Q E p s hn h; obtain ⟨res, s', hw, h⟩ := h; exact ⟨res, s', hw, ih res Q E p s' (Nat.le_trans hn (wakes_size hw)) h⟩
  | yield _ _ _ _ => intro Q E p s _ h; exact h
  | stack k ih => intro Q E p s hn h; exact ih _ Q E p s hn h
  | fork _ _ => intro Q E p s _ h; exact h
  | thread k ih => intro Q E p s hn h; exact ih _ Q E p s hn h
  | await _ _ _ _ _ => intro Q E p s _ h; exact h
theorem wpAny_size {α : Type} {M : Model} {A : Around} {s : Shared} {t : Sem α} {Q : α → Shared → Prop} {E : Value → Shared → Prop}
    (h : wpAny M A t (fun a s' => s.heap.objs.size ≤ s'.heap.objs.size → Q a s') (fun e s' => s.heap.objs.size ≤ s'.heap.objs.size → E e s') s) : wpAny M A t Q E s :=
  fun Γ p hΓ => Sem.wp_mono M Γ t (fun _ _ _ x => x.2 x.1) (fun _ _ _ x => x.2 x.1) p s (wp_size M Γ s.heap.objs.size t _ _ p s (Nat.le_refl _) (h Γ p hΓ))

/-! arguments bound to names -/
theorem lookup_zip_some : ∀ {ns : List Str} {vs : List Value}, ns.length = vs.length → ∀ n ∈ ns, ((ns.zip vs).lookup n).isSome = true
  | [], _, _, n, h => by cases h
  | m :: ns, v :: vs, hl, n, h => by
    rw [List.zip_cons_cons, List.lookup_cons]
    induction q : n == m using Bool.casesOn with
    | true => rfl
    | false =>
      rcases List.mem_cons.mp h with e | e
      · rw [e] at q; simp at q
      · exact lookup_zip_some (by simpa using hl) n e
  | _ :: _, [], hl, _, _ => by simp at hl
theorem fm_congr {α β : Type} {f g : α → Option β} : ∀ {l : List α}, (∀ x ∈ l, f x = g x) → l.filterMap f = l.filterMap g
  | [], _ => rfl
  | a :: l, h => by rw [List.filterMap_cons, List.filterMap_cons, h a (.head _), fm_congr fun x hx => h x (.tail _ hx)]
set_option tactic.hygienic false in
theorem filterMap_zip : ∀ {ns : List Str} {vs : List Value}, ns.Nodup → ns.length = vs.length → (ns.filterMap fun n => ((ns.zip vs).lookup n).map (n, ·)) = ns.zip vs
  | [], _, _, _ => rfl
  | m :: ns, v :: vs, nd, hl => by
    have nd' := List.nodup_cons.mp nd
    rw [List.zip_cons_cons, List.filterMap_cons, List.lookup_cons]
    simp only [beq_self_eq_true, Option.map_some]
    congr 1
    refine Eq.trans (fm_congr fun x hx => ?_) (filterMap_zip nd'.2 (by simpa using hl))
    rw [List.lookup_cons]
    have : (x == m) = false := by simp; intro e; exact nd'.1 (e ▸ hx)
    rw [this]
  | _ :: _, [], _, hl => by simp at hl

/-- what the binder makes of positional arguments and defaults -/
noncomputable def bindsOf (names : List Str) (vs ds : List Value) : List (Str × Value) :=
  let slots := ((names.drop (names.length - ds.length)).zip ds).foldl (fun sl p => if (sl.lookup p.1).isNone then sl ++ [(p.1, p.2)] else sl) (names.zip vs)
  names.filterMap fun n => (slots.lookup n).map (n, ·)
theorem forIn_slots {f : Str × Value → List (Str × Value) → Sem (ForInStep (List (Str × Value)))} (hf : ∀ p sl, f p sl = pure (.yield (if (sl.lookup p.1).isNone then sl ++ [(p.1, p.2)] else sl))) :
    ∀ (l : List (Str × Value)) (sl : List (Str × Value)), forIn l sl f = pure (l.foldl (fun sl p => if (sl.lookup p.1).isNone then sl ++ [(p.1, p.2)] else sl) sl)
  | [], sl => by rw [List.forIn_nil]; rfl
  | p :: l, sl => by rw [List.forIn_cons, hf, pure_bind]; exact forIn_slots hf l _

set_option tactic.hygienic false in
theorem wpAny_no {α : Type} {M : Model} {A : Around} {Q : α → Shared → Prop} {E : Value → Shared → Prop} {s : Shared} {c : Prop} [Decidable c] {a b : Sem α} (h : ¬ c) (w : wpAny M A b Q E s) : wpAny M A (if c then a else b) Q E s := by rw [if_neg h]; exact w
set_option tactic.hygienic false in
theorem wpAny_for0 {α β : Type} {M : Model} {A : Around} {Q : β → Shared → Prop} {E : Value → Shared → Prop} {s : Shared} {b : β} {f : α → β → Sem (ForInStep β)} (h : Q b s) : wpAny M A (forIn ([] : List α) b f) Q E s := by rw [List.forIn_nil]; exact wpAny_pure h
set_option tactic.hygienic false in
theorem wpAny_slots {M : Model} {A : Around} {Q : List (Str × Value) → Shared → Prop} {E : Value → Shared → Prop} {s : Shared} {f : Str × Value → List (Str × Value) → Sem (ForInStep (List (Str × Value)))} {l : List (Str × Value)} {sl : List (Str × Value)}
    (hf : ∀ p sl, f p sl = pure (.yield (if (sl.lookup p.1).isNone then sl ++ [(p.1, p.2)] else sl))) (h : Q (l.foldl (fun sl p => if (sl.lookup p.1).isNone then sl ++ [(p.1, p.2)] else sl) sl) s) : wpAny M A (forIn l sl f) Q E s := by rw [forIn_slots hf]; exact wpAny_pure h

set_option tactic.hygienic false in
theorem binds_ok {s : Shared} {fd : FuncData} {names : List Str} {vs ds : List Value} (hp : fd.params.posonlyargs = []) (hn : fd.params.args.map (·.arg) = names) (hk : fd.params.kwonlyargs = []) (hv : fd.params.vararg = none) (hw : fd.params.kwarg = none)
    (h1 : vs.length ≤ names.length) (h2 : names.length ≤ vs.length + ds.length) (h3 : ds.length ≤ names.length)
    (hd : ∀ (M : Model) (A : Around) (E : Value → Shared → Prop) (Q : Option (Array Value) → Shared → Prop), (∀ o : Option (Array Value), (o.getD #[]).toList = ds → Q o s) → wpAny M A (seqItems? fd.defaults) Q E s) :
    BindsTo s fd ⟨vs, []⟩ (bindsOf names vs ds) := by
  obtain ⟨nm, qn, ps, body, scope, globals, closure, dflts, kwd, doc, pym, ann, code, ct⟩ := fd
  obtain ⟨p1, p2, p3, p4, p5, p6, p7⟩ := ps
  dsimp only at hp hn hk hv hw hd
  subst hp hk hv hw
  intro M A E Q hq
  have e1 : ¬ ((decide (vs.length > names.length) && (none : Option Arg).isNone) = true) := by simp; omega
  have e2 : ds.drop (ds.length - names.length) = ds := by rw [Nat.sub_eq_zero_of_le h3]; rfl
  have e3 : ((names.take (names.length - ds.length)).filter fun n => ((names.zip vs).lookup n).isNone) = [] := by
    rw [List.filter_eq_nil_iff]
    intro n hm
    have hz : names.zip vs = (names.take vs.length).zip vs := by
      rw [List.zip_eq_zip_take_min, List.zip_eq_zip_take_min (l₁ := names.take vs.length)]
      simp [List.take_take]
      rw [Nat.min_comm]
    rw [hz]
    have hs := lookup_zip_some (ns := names.take vs.length) (vs := vs) (by simp; omega) n (by
      obtain ⟨i, hi, rfl⟩ := List.mem_iff_getElem.mp hm
      simp only [List.length_take] at hi
      rw [List.getElem_take]
      exact List.mem_iff_getElem.mpr ⟨i, by simp; omega, by simp⟩)
    induction q : ((names.take vs.length).zip vs).lookup n using Option.casesOn with
    | none => rw [q] at hs; first | exact nn hs | exact nf hs | cases hs
    | some v => simp
  have e4 : ¬ ((!((names.take (names.length - (ds.drop (ds.length - names.length)).length)).filter fun n => ((names.zip vs).lookup n).isNone).isEmpty) = true) := by rw [e2, e3]; decide
  have e5 : (names ++ []).filterMap (fun n => ((((names.drop (names.length - (ds.drop (ds.length - names.length)).length)).zip (ds.drop (ds.length - names.length))).foldl (fun (sl : List (Str × Value)) (p : Str × Value) => if (sl.lookup p.1).isNone then sl ++ [(p.1, p.2)] else sl) (names.zip vs)).lookup n).map (n, ·)) = bindsOf names vs ds := by rw [e2, List.append_nil]; rfl
  rw [← e5] at hq
  clear e2 e3 e5 h1 h2 h3
  subst hn
  refine wpAny_bind (wpAny_for0 (wpAny_bind (hd M A E _ fun o ho => ?_)))
  subst ho
  refine wpAny_no e1 (wpAny_no e4 (wpAny_bind (wpAny_slots (fun p sl => ?_) (wpAny_bind (wpAny_for0 (wpAny_no Bool.false_ne_true (wpAny_pure hq)))))))
  obtain ⟨a, b⟩ := p; dsimp only; split <;> simp_all
end Mine
end
section
set_option maxRecDepth 100000
set_option autoImplicit false
namespace Mine
open PySem PySem.W PyProof.Rows

/-- what is so of every def's text -/
noncomputable def nodupS : List Str → Bool
  | [] => true
  | x :: r => !memS x r && nodupS r
theorem nodupS_ok : ∀ {l : List Str}, nodupS l = true → l.Nodup
  | [], _ => List.nodup_nil
  | x :: r, h => by
    have h := Bool.and_eq_true_iff.mp h
    refine List.nodup_cons.mpr ⟨fun m => ?_, nodupS_ok h.2⟩
    rw [(memS_iff x r).mpr m] at h
    cases h.1
noncomputable def kindIs (k : NameKind) : Option NameKind → Bool
  | some q => q == k
  | none => false
noncomputable def FN.static (f : FN) : Bool := nodupS f.params && f.params.all (fun p => kindIs .local (lkS p f.names) || kindIs .cell (lkS p f.names)) && f.names.all (fun x => x.2 != .free) && Nat.ble f.dflts.length f.params.length
set_option tactic.hygienic false in
theorem fn_static (f : FN) : f.static = true := by cases f <;> decide +kernel
set_option tactic.hygienic false in
theorem FN.nodup (f : FN) : f.params.Nodup := by
  have h := fn_static f
  simp only [FN.static, Bool.and_eq_true] at h
  exact nodupS_ok h.1.1.1
set_option tactic.hygienic false in
theorem FN.nofree (f : FN) : ∀ x ∈ f.names, x.2 ≠ .free := by
  have h := fn_static f
  simp only [FN.static, Bool.and_eq_true] at h
  intro x hx
  have := List.all_eq_true.mp h.1.2 x hx
  simpa using this
set_option tactic.hygienic false in
theorem FN.dfl (f : FN) : f.dflts.length ≤ f.params.length := by
  have h := fn_static f
  simp only [FN.static, Bool.and_eq_true] at h
  exact Nat.le_of_ble_eq_true h.2
theorem FN.plocal (f : FN) : ∀ p ∈ f.params, f.names.lookup p = some .local ∨ f.names.lookup p = some .cell := by
  have h := fn_static f
  simp only [FN.static, Bool.and_eq_true] at h
  intro p hp
  have := List.all_eq_true.mp h.1.1.2 p hp
  rw [lkS_eq] at this
  rcases Bool.or_eq_true_iff.mp this with q | q
  · left; unfold kindIs at q; split at q
    · rename_i e; rw [e, beq_iff_eq.mp q]
    · first | exact nn q | exact nf q | first | exact nn q | exact nf q | cases q
  · right; unfold kindIs at q; split at q
    · rename_i e; rw [e, beq_iff_eq.mp q]
    · first | exact nn q | exact nf q | first | exact nn q | exact nf q | cases q

theorem cellsFrom_has : ∀ (names : List (Str × NameKind)) (n : Nat) (acc : List (Str × Addr)) (x : Str), ((acc.lookup x).isSome = true ∨ names.lookup x = some .cell) → ((cellsFrom n names acc).lookup x).isSome = true
  | [], n, acc, x, h => by
    rcases h with h | h
    · exact h
    · first | exact nn h | exact nf h | first | exact nn h | exact nf h | cases h
  | (m, k) :: r, n, acc, x, h => by
    unfold cellsFrom
    have stay : (acc.lookup x).isSome = true → (((m, n) :: acc).lookup x).isSome = true := fun q => by
      rw [List.lookup_cons]; cases x == m <;> simp_all
    split
    · rename_i hk
      refine cellsFrom_has r (n + 1) _ x ?_
      rcases h with h | h
      · exact .inl (stay h)
      · rw [List.lookup_cons] at h
        induction q : x == m using Bool.casesOn with
        | true => left; rw [List.lookup_cons, q]; rfl
        | false => rw [q] at h; exact .inr h
    · rename_i hk
      refine cellsFrom_has r n acc x ?_
      rcases h with h | h
      · exact .inl h
      · rw [List.lookup_cons] at h
        induction q : x == m using Bool.casesOn with
        | true => rw [q] at h; cases h; simp at hk
        | false => rw [q] at h; exact .inr h

section
variable {B : Base} {g : Gh} {σ : Sg} {h : Heap}
noncomputable def BindsAre (B : Base) (g : Gh) (h : Heap) (σ : Sg) : Ga → List (Str × Value) → Prop
  | [], bs => bs = []
  | (x, a) :: Γ, bs => ∃ v r, bs = (x, v) :: r ∧ AVal B g h σ a v ∧ BindsAre B g h σ Γ r
theorem BindsAre.of : ∀ {ns : List Str} {as : List AV} {vs : List Value}, AVals B g h σ as vs → ns.length = as.length → BindsAre B g h σ (zipA ns as) (ns.zip vs)
  | [], [], vs, _, _ => by unfold zipA; exact rfl
  | n :: ns, a :: as, _, xx, hl => by obtain ⟨v, r, e, x, y⟩ := xx; subst e; exact ⟨v, ns.zip r, rfl, x, BindsAre.of y (by simpa using hl)⟩
  | [], _ :: _, _, _, hl => by simp at hl
  | _ :: _, [], _, _, hl => by simp at hl
theorem BindsAre.names : ∀ {Γ : Ga} {bs : List (Str × Value)}, BindsAre B g h σ Γ bs → bs.map (·.1) = Γ.map (·.1)
  | [], bs, x => by rw [show bs = [] from x]; rfl
  | (n, a) :: Γ, _, xx => by obtain ⟨v, r, e, x, y⟩ := xx; subst e; simp [BindsAre.names y]
theorem bindL_other {k : Str → Option NameKind} {x : Str} : ∀ {bs : List (Str × Value)} {m : Str → Option Value}, (∀ p ∈ bs, p.1 ≠ x) → bindL k bs m x = m x
  | [], _, _ => rfl
  | (n, v) :: r, m, hn => by
    unfold bindL
    rw [bindL_other (fun p hp => hn p (.tail _ hp))]
    split
    · have := hn _ (.head _); exact if_neg (Ne.symm this)
    · rfl
theorem bindC_other {k : Str → Option NameKind} {x : Str} : ∀ {bs : List (Str × Value)} {m : Str → Option Value}, (∀ p ∈ bs, p.1 ≠ x) → bindC k bs m x = m x
  | [], _, _ => rfl
  | (n, v) :: r, m, hn => by
    unfold bindC
    rw [bindC_other (fun p hp => hn p (.tail _ hp))]
    split
    · rfl
    · have := hn _ (.head _); exact if_neg (Ne.symm this)
theorem BindsAre.local {k : Str → Option NameKind} {x : Str} {a : AV} (hk : k x = some .local) : ∀ {Γ : Ga} {bs : List (Str × Value)} {m : Str → Option Value}, BindsAre B g h σ Γ bs → (Γ.map (·.1)).Nodup → lkS x Γ = some a → ∃ v, bindL k bs m x = some v ∧ AVal B g h σ a v
  | [], _, _, _, _, e => nn e
  | (n, a') :: Γ, _, m, xx, nd, e => by
    obtain ⟨v, r, ev, av, y⟩ := xx
    subst ev
    have nd := List.nodup_cons.mp nd
    unfold lkS at e
    induction q : sEq x n using Bool.casesOn with
    | true =>
      rw [q] at e; first | exact nn e | exact nf e | first | exact nn e | exact nf e | cases e
      have := (sEq_iff _ _).mp q; subst this
      refine ⟨v, ?_, av⟩
      unfold bindL
      rw [bindL_other (fun p hp w => nd.1 (by rw [← BindsAre.names y, ← w]; exact List.mem_map_of_mem hp)), if_pos hk]
      exact if_pos rfl
    | false =>
      rw [q] at e
      unfold bindL
      exact BindsAre.local hk y nd.2 e
theorem BindsAre.cell {k : Str → Option NameKind} {x : Str} {a : AV} (hk : k x = some .cell) : ∀ {Γ : Ga} {bs : List (Str × Value)} {m : Str → Option Value}, BindsAre B g h σ Γ bs → (Γ.map (·.1)).Nodup → lkS x Γ = some a → ∃ v, bindC k bs m x = some v ∧ AVal B g h σ a v
  | [], _, _, _, _, e => nn e
  | (n, a') :: Γ, _, m, xx, nd, e => by
    obtain ⟨v, r, ev, av, y⟩ := xx
    subst ev
    have nd := List.nodup_cons.mp nd
    unfold lkS at e
    induction q : sEq x n using Bool.casesOn with
    | true =>
      rw [q] at e; first | exact nn e | exact nf e | first | exact nn e | exact nf e | cases e
      have := (sEq_iff _ _).mp q; subst this
      refine ⟨v, ?_, av⟩
      unfold bindC
      rw [bindC_other (fun p hp w => nd.1 (by rw [← BindsAre.names y, ← w]; exact List.mem_map_of_mem hp)), if_neg (by rw [hk]; decide)]
      exact if_pos rfl
    | false =>
      rw [q] at e
      unfold bindC
      exact BindsAre.cell hk y nd.2 e
theorem zipA_names : ∀ {ns : List Str} {as : List AV}, ns.length = as.length → (zipA ns as).map (·.1) = ns
  | [], [], _ => rfl
  | n :: ns, a :: as, hl => by unfold zipA; simp [zipA_names (ns := ns) (as := as) (by simpa using hl)]
  | [], _ :: _, hl => by simp at hl
  | _ :: _, [], hl => by simp at hl
theorem AVals.length : ∀ {as : List AV} {vs : List Value}, AVals B g h σ as vs → vs.length = as.length
  | [], _, x => by rw [show _ = ([] : List Value) from x]; rfl
  | t :: ts, _, xx => by obtain ⟨v, r, e, x, y⟩ := xx; rw [e, List.length_cons, List.length_cons, AVals.length y]
theorem AVals.append : ∀ {as bs : List AV} {vs ws : List Value}, AVals B g h σ as vs → AVals B g h σ bs ws → AVals B g h σ (as ++ bs) (vs ++ ws)
  | [], _, vs, _, x, y => by rw [show vs = [] from x]; exact y
  | t :: ts, _, _, ws, xx, z => by obtain ⟨v, r, e, x, y⟩ := xx; exact ⟨v, r ++ ws, by rw [e]; rfl, x, AVals.append y z⟩
theorem AVals.ofL : ∀ {ts : List T} {vs : List Value}, RepL B g.Z h ts vs → AVals B g h σ (ts.map .t) vs
  | [], _, x => x
  | t :: ts, _, xx => by obtain ⟨v, r, e, x, y⟩ := xx; exact ⟨v, r, e, x, AVals.ofL y⟩
theorem RepL.drop {Z : Addr → Prop} : ∀ {ts : List T} {vs : List Value} (n : Nat), RepL B Z h ts vs → RepL B Z h (ts.drop n) (vs.drop n)
  | ts, vs, 0, x => x
  | [], vs, n + 1, x => by rw [show vs = [] from x]; exact rfl
  | t :: ts, _, n + 1, xx => by obtain ⟨v, r, e, x, y⟩ := xx; subst e; exact RepL.drop n y
end

theorem len_one {α : Type} : ∀ {l : List α}, l.length = 1 → ∃ a, l = [a]
  | [a], _ => ⟨a, rfl⟩
theorem len_two {α : Type} : ∀ {l : List α}, l.length = 2 → ∃ a b, l = [a, b]
  | [a, b], _ => ⟨a, b, rfl⟩
theorem len_three {α : Type} : ∀ {l : List α}, l.length = 3 → ∃ a b c, l = [a, b, c]
  | [a, b, c], _ => ⟨a, b, c, rfl⟩
/-  a def of three names, the last with a default -/
set_option tactic.hygienic false in
theorem binds_31 (f : FN) (e : f.params.length = 3) (k2 : ∀ a b d : Value, bindsOf f.params [a, b] [d] = f.params.zip [a, b, d]) (k3 : ∀ a b c d : Value, bindsOf f.params [a, b, c] [d] = f.params.zip [a, b, c])
    (vs ds : List Value) (hd : ds.length = 1) (h1 : vs.length ≤ f.params.length) (h2 : f.params.length ≤ vs.length + ds.length) : bindsOf f.params vs ds = f.params.zip (vs ++ ds.drop (vs.length + ds.length - f.params.length)) := by
  rw [e] at h1 h2 ⊢
  obtain ⟨d, rfl⟩ := len_one hd
  have h2 : 3 ≤ vs.length + 1 := h2
  rcases (by omega : vs.length = 2 ∨ vs.length = 3) with h | h
  · obtain ⟨a, b, rfl⟩ := len_two h; exact k2 a b d
  · obtain ⟨a, b, c, rfl⟩ := len_three h; exact k3 a b c d
/-  the arguments and the defaults, name by name -/
set_option tactic.hygienic false in
theorem bindsOf_eq (f : FN) (vs ds : List Value) (hd : ds.length = f.dflts.length) (h1 : vs.length ≤ f.params.length) (h2 : f.params.length ≤ vs.length + ds.length) :
    bindsOf f.params vs ds = f.params.zip (vs ++ ds.drop (vs.length + ds.length - f.params.length)) := by
  by_cases h0 : ds = []
  · subst h0
    have hl : f.params.length = vs.length := by simp at h2; omega
    unfold bindsOf
    simp only [List.zip_nil_right, List.foldl_nil, List.drop_nil, List.append_nil]
    exact filterMap_zip f.nodup hl
  · cases f with
    | stringInit => exact binds_31 _ (by decide +kernel) (fun _ _ _ => by kernel_rfl!) (fun _ _ _ _ => by kernel_rfl!) vs ds hd h1 h2
    | starting_states => exact binds_31 _ (by decide +kernel) (fun _ _ _ => by kernel_rfl!) (fun _ _ _ _ => by kernel_rfl!) vs ds hd h1 h2
    | order_rows => exact binds_31 _ (by decide +kernel) (fun _ _ _ => by kernel_rfl!) (fun _ _ _ _ => by kernel_rfl!) vs ds hd h1 h2
    | lookupInit =>
      have e1 : FN.lookupInit.params.length = 3 := by decide +kernel
      rw [e1] at h1 h2
      obtain ⟨d, e, rfl⟩ := len_two hd
      have h2 : 3 ≤ vs.length + 2 := h2
      rcases (by omega : vs.length = 1 ∨ vs.length = 2 ∨ vs.length = 3) with h | h | h
      · obtain ⟨a, rfl⟩ := len_one h; kernel_rfl!
      · obtain ⟨a, b, rfl⟩ := len_two h; kernel_rfl!
      · obtain ⟨a, b, c, rfl⟩ := len_three h; kernel_rfl!
    | configuration =>
      have e1 : FN.configuration.params.length = 2 := by decide +kernel
      rw [e1] at h1 h2
      obtain ⟨d, rfl⟩ := len_one hd
      have h2 : 2 ≤ vs.length + 1 := h2
      rcases (by omega : vs.length = 1 ∨ vs.length = 2) with h | h
      · obtain ⟨a, rfl⟩ := len_one h; kernel_rfl!
      · obtain ⟨a, b, rfl⟩ := len_two h; kernel_rfl!
    | _ => exact absurd (List.length_eq_zero_iff.mp hd) h0
end Mine
end
section
set_option maxRecDepth 100000
set_option autoImplicit false
namespace Mine
open PySem PySem.W PyProof.Rows

theorem Bnd.deep {A : Around} {n : Nat} (b : Bnd A (n + 1)) (env : Env) : Bnd (A.deeper env) n := ⟨by have := b.depth; show A.depth + 1 + _ + _ < _; omega, by have := b.units; show A.units + 3 + _ + _ < _; omega, b.hd⟩
set_option tactic.hygienic false in
theorem tc_weight (C : Addr) (r : List Value) (kw : List (Str × Value)) : (Code.builtin "type.__call__" ⟨.ref C :: r, kw⟩).weight ≤ 3 := by
  have : (Code.builtin "type.__call__" ⟨.ref C :: r, kw⟩).weight = 1 := by kernel_rfl!
  omega
set_option tactic.hygienic false in
theorem tc_units (a : Args) : (Code.builtin "type.__call__" a).cUnits ≤ 8 := by
  have : (Code.builtin "type.__call__" a).cUnits = 1 := by kernel_rfl!
  omega
theorem Bnd.tc {A : Around} {n : Nat} (b : Bnd A (n + 1)) (C : Addr) (r : List Value) (kw : List (Str × Value)) : Bnd (A.under (.builtin "type.__call__" ⟨.ref C :: r, kw⟩)) n :=
  ⟨by have := b.depth; have := tc_weight C r kw; show A.depth + _ + _ + _ < _; omega, by have := b.units; have := tc_units ⟨.ref C :: r, kw⟩; show A.units + _ + _ + _ < _; omega, b.hd⟩

section
variable {B : Base} {R : Rec} {n : Nat} {g : Gh} {σ σ' σ₁ σ₂ : Sg} {A : Around} {s s₁ s₂ : Shared} {env : Env} {cx : Cx} {Γ : Ga}

/-- what a block's run must say -/
noncomputable def XOk (B : Base) (R : Rec) (n : Nat) : Prop := ∀ cx Γ σ e fl Γ' σ', stepX R cx Γ σ e = some (fl, Γ', σ') → ∀ A env g s, Bnd A n → EnvOk cx env → Inv B g σ s.heap → FrameOk B env g σ s.heap Γ → wpAny (BM B) A (execs e env) (PX B env g σ s fl Γ' σ') no s
/-- a call's answer -/
noncomputable def PC (B : Base) (g : Gh) (σ : Sg) (s : Shared) (a : AV) (σ' : Sg) (r : Result) (s' : Shared) : Prop := match r with
  | .ok (.ret v) => PE B g σ s a σ' v s'
  | _ => False
theorem PC.call {f : Value} {vs : List Value} {a : AV} (h : codeAny (BM B) A (.call f ⟨vs, []⟩) (PC B g σ s a σ') s) : wpAny (BM B) A (call f vs) (PE B g σ s a σ') no s :=
  wpAny_call (codeAny_mono h fun r s' q => by
    cases r with
    | error e => exact q
    | ok f => cases f <;> exact q)

set_option tactic.hygienic false in
theorem envOk_of {f : FN} {o : Obj} {fd : FuncData} (K : FnOk B f o fd) (L a : Addr) : EnvOk ⟨f.names⟩ (callEnvC fd L a) where
  kind := K.kind
  globals := K.glob
  builtins := K.bui
  names x k e := by
    show fd.scope.names.lookup x = _
    rw [K.names]
    rw [lkS_eq] at e
    have := f.nofree (x, k) (mem_of_lookup e)
    rw [show f.names.lookup x = some k from e]
    cases k <;> first | rfl | exact absurd rfl this
  cells x e := Option.isSome_iff_exists.mp (cellsFrom_has fd.scope.names (L + 1) [] x (.inr e))

theorem seq_none {s : Shared} {M : Model} {A : Around} {E : Value → Shared → Prop} {Q : Option (Array Value) → Shared → Prop} (h : Q none s) : wpAny M A (seqItems? .none) Q E s := wpAny_pure h

theorem callD_ok (W : Facts B) (S : XOk B R n) (f : FN) {as : List AV} {a : AV} (e : stepC R f as σ = some (a, σ')) (hb : Bnd A (n + 1)) (I : Inv B g σ s.heap) {vs : List Value} (av : AVals B g s.heap σ as vs) :
    codeAny (BM B) A (.call (.ref (B.fa f)) ⟨vs, []⟩) (PC B g σ s a σ') s := by
  obtain ⟨o, fd, K⟩ := W.fok f
  unfold stepC at e
  dsimp only at e
  split at e
  rotate_left
  · first | exact nn e | exact nf e | first | exact nn e | exact nf e | cases e
  rename_i hlen
  have hlen := Bool.and_eq_true_iff.mp hlen
  have l1 := Nat.le_of_ble_eq_true hlen.1
  have l2 := Nat.le_of_ble_eq_true hlen.2
  have lv := av.length
  have ho := I.stays _ _ K.at_
  have hcd : s.heap.CodeRec fd.code fd.qualname := by
    obtain ⟨c, o, vs, t, e1, e2, e3, e4⟩ := K.codeR
    exact ⟨c, o, vs, t, e1, I.stays _ _ e2, e3, e4⟩
  -- the defaults
  obtain ⟨ds, hds, hdl⟩ : ∃ ds : List Value, RepL B g.Z s.heap f.dflts ds ∧ ∀ (M : Model) (A : Around) (E : Value → Shared → Prop) (Q : Option (Array Value) → Shared → Prop), (∀ o : Option (Array Value), (o.getD #[]).toList = ds → Q o s) → wpAny M A (seqItems? fd.defaults) Q E s := by
    rcases K.dflt with ⟨e1, e2⟩ | ⟨T, o, items, m, e1, e2, e3, e4⟩
    · exact ⟨[], by rw [e1]; exact rfl, fun M A E Q h => by rw [e2]; exact seq_none (h none rfl)⟩
    · exact ⟨items.toList, e4 _ _, fun M A E Q h => by rw [e1]; exact wpAny_seqItems (I.stays _ _ e2) e3 (h (some items) rfl)⟩
  have ld := hds.length
  have hbind : BindsTo s fd ⟨vs, []⟩ (bindsOf f.params vs ds) := binds_ok K.po K.args K.kwo K.va K.kwa (by omega) (by omega) (by rw [ld]; exact f.dfl) hdl
  have hb2 := bindsOf_eq f vs ds ld (by omega) (by omega)
  rw [hb2] at hbind
  -- the arguments, all of them
  have full : AVals B g s.heap σ (as ++ (f.dflts.drop (as.length + f.dflts.length - f.params.length)).map AV.t) (vs ++ ds.drop (vs.length + ds.length - f.params.length)) := by
    refine av.append ?_
    rw [lv, ld]
    exact AVals.ofL (hds.drop _)
  have lfull : f.params.length = (as ++ (f.dflts.drop (as.length + f.dflts.length - f.params.length)).map AV.t).length := by
    simp only [List.length_append, List.length_map, List.length_drop]; omega
  have BA := BindsAre.of full lfull
  have nd : ((zipA f.params (as ++ (f.dflts.drop (as.length + f.dflts.length - f.params.length)).map AV.t)).map (·.1)).Nodup := by rw [zipA_names lfull]; exact f.nodup
  have hroom : A.depth < recursionLimit := by have := hb.depth; omega
  obtain ⟨mc, hm1, hm2⟩ := W.nolimit
  refine codeAny_call_function hroom ho K.data K.co K.gen K.body hcd (hbind _ _ _ _ ?_)
  rw [K.clo]
  refine wpAny_newFunctionEnv_cells K.kind ?_ fun env he s₁ x => ?_
  · intro p hp
    have hm : p.1 ∈ f.params := (List.of_mem_zip (a := p.1) (b := p.2) hp).1
    rw [K.names]
    rcases f.plocal _ hm with q | q
    · exact .inl q
    · exact .inr ⟨q, cellsFrom_has _ _ _ _ (.inr q)⟩
  have he' : env = callEnvC fd s.heap.objs.size (B.fa f) := he
  subst he'
  obtain ⟨h₁, tk, rfl, hk⟩ := x.done
  have hsz : s.heap.objs.size < h₁.objs.size := x.toInCall.ns.lt
  obtain ⟨I₁, x₁⟩ := I.grow0 (h' := h₁) hk (Nat.le_of_lt hsz)
  refine ⟨Heap.NoLimit.keeps ⟨mc, hm1, hm2⟩ fun b o e => hk b o (I.stays b o e), codeAny_func ?_⟩
  have N := envOk_of K s.heap.objs.size (B.fa f)
  have BA₁ : BindsAre B g h₁ σ (zipA f.params (as ++ (f.dflts.drop (as.length + f.dflts.length - f.params.length)).map AV.t)) (f.params.zip (vs ++ ds.drop (vs.length + ds.length - f.params.length))) := by
    have : ∀ {Γ : Ga} {bs : List (Str × Value)}, BindsAre B g s.heap σ Γ bs → BindsAre B g h₁ σ Γ bs := by
      intro Γ
      induction Γ with
      | nil => intro bs y; exact y
      | cons p Γ ih => obtain ⟨n, a⟩ := p; intro bs y; obtain ⟨v, r, e, p, q⟩ := y; exact ⟨v, r, e, x₁.aval p, ih q⟩
    exact this BA
  have nz : ∀ b, s.heap.objs.size ≤ b → ¬ g.Z b ∧ ¬ Owned g σ b := fun b hb => ⟨fun z => absurd (I.zlt b z) (Nat.not_lt_of_le hb), fun q => absurd (I.owned_lt q) (Nat.not_lt_of_le hb)⟩
  have F : FrameOk B (callEnvC fd s.heap.objs.size (B.fa f)) g σ h₁ (zipA f.params (as ++ (f.dflts.drop (as.length + f.dflts.length - f.params.length)).map AV.t)) := by
    refine ⟨⟨_, x.toInCall.ns, fun y a e k => BA₁.local k nd e⟩, fun y a e k => ?_, fun y c e => ⟨_, x.cell y c e⟩, (nz _ (Nat.le_refl _)).1, (nz _ (Nat.le_refl _)).2, fun y c e => ?_, fun y z c e1 e2 => name_of_addr x.apart (mem_of_lookup e1) (mem_of_lookup e2)⟩
    · obtain ⟨v, hv, av⟩ := BA₁.cell k nd e (m := fun _ => none)
      have hc : ((cellsFrom (s.heap.objs.size + 1) fd.scope.names []).lookup y).isSome = true := cellsFrom_has _ _ _ _ (.inr k)
      obtain ⟨c, hc⟩ := Option.isSome_iff_exists.mp hc
      exact ⟨c, v, hc, hv ▸ x.cell y c hc, av⟩
    · have hL := x.above y c (mem_of_lookup e)
      have hL' : s.heap.objs.size < c := hL
      exact ⟨(nz c (Nat.le_of_lt hL')).1, (nz c (Nat.le_of_lt hL')).2, Nat.ne_of_gt hL'⟩
  have XX : ∀ a, XE (callEnvC fd s.heap.objs.size (B.fa f)) a → False ∨ s.heap.objs.size ≤ a := fun b q => by
    rcases q with q | ⟨y, q⟩
    · exact .inr (Nat.le_of_eq q.symm)
    · exact .inr (Nat.le_of_lt (x.above y b (mem_of_lookup q)))
  have xw := x₁.weaken (Y := XE (callEnvC fd s.heap.objs.size (B.fa f))) fun _ q => q.elim
  split at e
  · rename_i v Γ' σ₁ e1
    first | exact nn e | exact nf e | first | exact nn e | exact nf e | cases e
    refine wpAny_mono (S _ _ _ _ _ _ _ e1 _ _ g _ (hb.deep _) N I₁ F) (fun fl s₂ ⟨g₂, x₂, I₂, F₂, hf, r₂⟩ => ?_) fun _ _ y => y.elim
    obtain ⟨v, rfl, av⟩ := hf
    exact ⟨g₂, (xw.trans I I₁ x₂).forget XX, I₂, av, SameRest.trans ⟨rfl, rfl, rfl⟩ r₂⟩
  · rename_i Γ' σ₁ e1
    first | exact nn e | exact nf e | first | exact nn e | exact nf e | cases e
    refine wpAny_mono (S _ _ _ _ _ _ _ e1 _ _ g _ (hb.deep _) N I₁ F) (fun fl s₂ ⟨g₂, x₂, I₂, F₂, hf, r₂⟩ => ?_) fun _ _ y => y.elim
    rw [show fl = .next from hf]
    exact ⟨g₂, (xw.trans I I₁ x₂).forget XX, I₂, rfl, SameRest.trans ⟨rfl, rfl, rfl⟩ r₂⟩
  · first | exact nn e | exact nf e | first | exact nn e | exact nf e | cases e

/-  an object made -/
set_option tactic.hygienic false in
theorem make_ok (W : Facts B) (S : Snd B R n) {c : CN} {f : FN} (hc : c.init = some f) {as : List AV} (e : R.c f (.own σ.length :: as) (σ ++ [.inst c [] []]) = some (.t .none, σ')) (hb : Bnd A (n + 1)) (I : Inv B g σ s.heap) {vs : List Value} (av : AVals B g s.heap σ as vs) :
    codeAny (BM B) A (.call (.ref (B.ca c)) ⟨vs, []⟩) (PC B g σ s (.own σ.length) σ') s := by
  obtain ⟨m1, m2, _⟩ := W.init c f hc
  have X := W.now I
  have hf := beq_iff_eq.mp (W.fn f).1
  obtain ⟨hh, gg, dd, tt, oo⟩ := s
  refine make_core (makes_of X m1) (looks_findIn X m2) (fun self => bind_fn X self hf) (.inl rfl) ?_
  have k : ∀ b o, hh.get? b = some o → ((hh.push emptyDict).push (instObj (B.ca c) hh.objs.size)).get? b = some o := fun b o e => Heap.get?_push_of_some _ (Heap.get?_push_of_some _ e)
  have hx : ((hh.push emptyDict).push (instObj (B.ca c) hh.objs.size)).get? (hh.objs.size + 1) = some (instObj (B.ca c) hh.objs.size) := by heap_get
  have hd : ((hh.push emptyDict).push (instObj (B.ca c) hh.objs.size)).get? hh.objs.size = some (dictOf [] 0) := by
    exact Heap.get?_push_of_some _ (Heap.get?_push_size _ rfl)
  obtain ⟨g₁, I₁, x₁, er, ez⟩ := I.newOwn k (by simp; omega) (hh.objs.size + 1) hh.objs.size (Nat.le_succ _) (Nat.le_refl _) (.inst c [] [])
    ⟨by dsimp only; rw [if_pos rfl, if_pos rfl]; exact Nat.succ_ne_self _, [], by dsimp only; rw [if_pos rfl, if_pos rfl]; exact ⟨hx, [], 0, hd, trivial⟩, rfl⟩
  have av₁ : AVals B g₁ ((hh.push emptyDict).push (instObj (B.ca c) hh.objs.size)) (σ ++ [.inst c [] []]) (.own σ.length :: as) (.ref (hh.objs.size + 1) :: vs) :=
    ⟨_, _, rfl, ⟨by rw [List.length_append]; simp, by rw [er]⟩, x₁.avals av⟩
  refine codeAny_mono (S.c _ _ _ _ _ e _ g₁ ⟨(hh.push emptyDict).push (instObj (B.ca c) hh.objs.size), gg, dd, tt, oo⟩ _ (hb.tc _ _ _) I₁ av₁) fun r s' q => ?_
  cases r with
  | error e => exact q.elim
  | ok fl =>
    cases fl with
    | ret v =>
      obtain ⟨g₂, x₂, I₂, hv, r₂⟩ := q
      refine ⟨hv, g₂, x₁.trans I I₁ x₂, I₂, ⟨Nat.lt_of_lt_of_le (by rw [List.length_append]; simp) x₂.len, ?_⟩, SameRest.trans ⟨rfl, rfl, rfl⟩ r₂⟩
      rw [x₂.ag _ (by rw [List.length_append]; simp), er]
    | next => exact q.elim
    | brk => exact q.elim
    | cont => exact q.elim
end
end Mine
end
section
set_option maxRecDepth 100000
set_option autoImplicit false
namespace Mine
open PySem PySem.W PyProof.Rows

/-- an iterator's class that keeps no tuple of its own -/
noncomputable def plainIt (h : Heap) (I : Addr) : Prop := ∃ o T, h.get? I = some o ∧ o.cls = .type T ∧ ["enumerate", "zip", "dict_itemiterator", "dict_reverseitemiterator", "odict_iterator", "itertools.zip_longest", "itertools.pairwise"].contains T = false

/-- what is still to come from an iterator -/
structure Src (B : Base) (A : Around) (lo hi : Nat) (g : Gh) (σ : Sg) (h : Heap) (ts : List T) (it : Value) : Prop where
  has : ∃ I fp n P St i, it = .ref I ∧ Walks B.prog B.w A I fp [I] n P St ∧ i + ts.length = n ∧ St i h ∧ (∀ b ∈ fp, b = I ∨ g.Z b) ∧ lo ≤ I ∧ I < hi ∧ Free g σ h I ∧
    (∀ j v, j < ts.length → P (i + j) v → ∃ t, ts[j]? = some t ∧ Rep B g.Z h t v) ∧ (∀ i h, St i h → plainIt h I)

section
variable {B : Base} {R : Rec} {n : Nat} {g g' : Gh} {σ σ' σ₁ σ₂ : Sg} {A : Around} {s s₁ s₂ : Shared} {env : Env} {cx : Cx} {Γ : Ga} {lo hi : Nat} {ts : List T} {it : Value} {h h' : Heap}

set_option tactic.hygienic false in
theorem Src.ext {X : Addr → Prop} (S : Src B A lo hi g σ h ts it) (x : Ext X g σ h g' σ' h') (hX : ∀ a, X a → a < lo ∨ hi ≤ a) : Src B A lo hi g' σ' h' ts it := by
  obtain ⟨I, fp, n, P, St, i, e, W, hn, st, hf, hl, hu, fr, hP, pl⟩ := S
  refine ⟨I, fp, n, P, St, i, e, W, hn, W.frame _ _ _ st fun b hb o eo => ?_, fun b hb => (hf b hb).imp id (x.zm b), hl, hu, fr.ext x, fun j v hj p => let ⟨t, a, b⟩ := hP j v hj p; ⟨t, a, x.rep b⟩, pl⟩
  rcases hf b hb with rfl | z
  · exact x.keep b o eo fr.no fun q => (hX b q).elim (fun q => absurd q (Nat.not_lt_of_le hl)) fun q => absurd hu (Nat.not_lt_of_le q)
  · exact x.zk b o z eo

set_option tactic.hygienic false in
theorem Src.step {I : Addr} (hl : lo ≤ I) (hu : I < hi) (fr : Free g σ s.heap I) (Iv : Inv B g σ s.heap) {h' : Heap} (hk : ∀ b o, b ∉ [I] → s.heap.get? b = some o → h'.get? b = some o) (sz : s.heap.objs.size ≤ h'.objs.size) :
    Inv B g σ h' ∧ Ext (fun a => lo ≤ a ∧ a < hi) g σ s.heap g σ h' ∧ Free g σ h' I := by
  obtain ⟨I', x⟩ := Iv.setFrees (X := (· = I)) (fun a q => q ▸ fr.nz) (fun a q => q ▸ fr.no) (fun a o q => hk a o (by simpa using q)) sz
  exact ⟨I', x.weaken fun a q => q ▸ ⟨hl, hu⟩, fr.ext x⟩

set_option tactic.hygienic false in
theorem Src.next {t : T} (S : Src B A lo hi g σ s.heap (t :: ts) it) (Iv : Inv B g σ s.heap) :
    wpAny (BM B) A (pyNext it) (fun r s₁ => ∃ v, r = some v ∧ Rep B g.Z s₁.heap t v ∧ Inv B g σ s₁.heap ∧ Ext (fun a => lo ≤ a ∧ a < hi) g σ s.heap g σ s₁.heap ∧ SameRest s s₁ ∧ Src B A lo hi g σ s₁.heap ts it) no s := by
  obtain ⟨I, fp, n, P, St, i, rfl, W, hn, st, hf, hl, hu, fr, hP, pl⟩ := S
  have hn' : i + (ts.length + 1) = n := hn
  refine wpAny_size (W.item i s _ _ (by omega) st fun v h' tk hv st' hk sz => ?_)
  obtain ⟨I', x, fr'⟩ := Src.step hl hu fr Iv hk sz
  obtain ⟨u, e1, e2⟩ := hP 0 v (by simp) hv
  simp only [List.getElem?_cons_zero, Option.some.injEq] at e1
  subst e1
  refine ⟨v, rfl, x.rep e2, I', x, ⟨rfl, rfl, rfl⟩, I, fp, n, P, St, i + 1, rfl, W, by omega, st', hf, hl, hu, fr', fun j v hj p => ?_, pl⟩
  obtain ⟨t, a, b⟩ := hP (j + 1) v (by simp; omega) (by rw [show i + (j + 1) = i + 1 + j by omega]; exact p)
  exact ⟨t, by simpa using a, x.rep b⟩
set_option tactic.hygienic false in
theorem Src.done (S : Src B A lo hi g σ s.heap [] it) (Iv : Inv B g σ s.heap) :
    wpAny (BM B) A (pyNext it) (fun r s₁ => r = none ∧ Inv B g σ s₁.heap ∧ Ext (fun a => lo ≤ a ∧ a < hi) g σ s.heap g σ s₁.heap ∧ SameRest s s₁) no s := by
  obtain ⟨I, fp, n, P, St, i, rfl, W, hn, st, hf, hl, hu, fr, hP, pl⟩ := S
  have hn' : i = n := hn
  subst hn'
  refine wpAny_size (W.done s _ _ st fun h' tk hk sz => ?_)
  obtain ⟨I', x, fr'⟩ := Src.step hl hu fr Iv hk sz
  exact ⟨rfl, I', x, rfl, rfl, rfl⟩
theorem Src.go {Q : Unit → Shared → Prop} {E : Value → Shared → Prop} (S : Src B A lo hi g σ s.heap ts it) (tg : Expr) (v : Value) (hQ : Q () s) : wpAny (BM B) A (letOwnedTupleGo tg it v) Q E s := by
  obtain ⟨I, fp, n, P, St, i, rfl, W, hn, st, hf, hl, hu, fr, hP, pl⟩ := S
  obtain ⟨o, T, ho, hc, hT⟩ := pl _ _ st
  unfold letOwnedTupleGo
  cases tg <;> first
    | exact wpAny_pure hQ
    | (cases v <;> first
        | exact wpAny_pure hQ
        | (refine wpAny_bind (wpAny_load ho ?_)
           rw [hc]
           split
           · rename_i q _
             injection q with q
             subst q
             rw [hT]
             exact wpAny_pure hQ
           · exact wpAny_pure hQ))
set_option tactic.hygienic false in
theorem Src.self {Q : Value → Shared → Prop} {E : Value → Shared → Prop} (S : Src B A lo hi g σ s.heap ts it) (hQ : Q it s) : wpAny (BM B) A (pyIter it) Q E s := by
  obtain ⟨I, fp, n, P, St, i, rfl, W, hn, st, hf, hl, hu, fr, hP, pl⟩ := S
  exact W.self i s Q E st hQ

/-- an iterator was made -/
inductive PSrc (B : Base) (A : Around) (lo : Nat) (g : Gh) (σ : Sg) (s : Shared) (ts : List T) (σ' : Sg) (it : Value) (s' : Shared) : Prop
  | mk (g' : Gh) (x : Ext (fun _ => False) g σ s.heap g' σ' s'.heap) (i : Inv B g' σ' s'.heap) (r : SameRest s s') (S : Src B A lo s'.heap.objs.size g' σ' s'.heap ts it) : PSrc B A lo g σ s ts σ' it s'
theorem PSrc.into (I : Inv B g σ s.heap) {g₁ : Gh} (x : E0 g σ s g₁ σ₁ s₁) (I₁ : Inv B g₁ σ₁ s₁.heap) (r : SameRest s s₁) {m : Sem Value} (h : wpAny (BM B) A m (PSrc B A lo g₁ σ₁ s₁ ts σ₂) no s₁) : wpAny (BM B) A m (PSrc B A lo g σ s ts σ₂) no s₁ :=
  wpAny_mono h (fun _ _ ⟨g₂, e, i, r', S⟩ => ⟨g₂, x.trans I I₁ e, i, r.trans r', S⟩) fun _ _ y => y
set_option tactic.hygienic false in
theorem PSrc.new (Iv : Inv B g σ s.heap) (hlo : lo ≤ s.heap.objs.size) {o : Obj} {fp : List Addr} {n : Nat} {P : Nat → Value → Prop} {St : Nat → Heap → Prop} (W : Walks B.prog B.w A s.heap.objs.size fp [s.heap.objs.size] n P St) (hn : ts.length = n)
    (st : St 0 (s.heap.push o)) (hf : ∀ b ∈ fp, b = s.heap.objs.size ∨ g.Z b) (hP : ∀ j v, j < ts.length → P j v → ∃ t, ts[j]? = some t ∧ Rep B g.Z s.heap t v) (pl : ∀ i h, St i h → plainIt h s.heap.objs.size) {tk : Nat} :
    PSrc B A lo g σ s ts σ (.ref s.heap.objs.size) ⟨s.heap.push o, s.gens, s.drawn, tk, s.os⟩ := by
  obtain ⟨I', x⟩ := Iv.grow0 (h' := s.heap.push o) (push_keeps _ _) (by simp)
  exact ⟨g, x, I', ⟨rfl, rfl, rfl⟩, _, fp, n, P, St, 0, rfl, W, by omega, st, hf, hlo, by simp, Iv.free_new (Nat.le_refl _) (by simp), fun j v hj p => let ⟨t, a, b⟩ := hP j v hj (by simpa using p); ⟨t, a, x.rep b⟩, pl⟩

theorem fp_two {I a : Addr} (z : g.Z a) : ∀ b ∈ [I, a], b = I ∨ g.Z b := fun b hb => by
  rcases List.mem_cons.mp hb with q | q
  · exact .inl q
  · exact .inr ((List.mem_singleton.mp q) ▸ z)
theorem fp_one {I : Addr} : ∀ b ∈ [I], b = I ∨ g.Z b := fun b hb => .inl (List.mem_singleton.mp hb)

theorem iter_ok {A₀ : Around} (Iv : Inv B g σ s.heap) {t : T} {v : Value} (r : Rep B g.Z s.heap t v) (e : itemsOf t = some ts) (hd : A.handled = none) (hlo : lo ≤ s.heap.objs.size) : wpAny (BM B) A₀ (pyIter v) (PSrc B A lo g σ s ts σ) no s := by
  unfold itemsOf at e
  split at e
  · rename_i us
    first | exact nn e | exact nf e | first | exact nn e | exact nf e | cases e
    obtain ⟨a, vs, rfl, z, p, q⟩ := r
    have hne : a ≠ s.heap.objs.size := Nat.ne_of_lt (Iv.zlt a z)
    refine wpAny_pyIter_list p.isList ?_
    refine PSrc.new Iv hlo (Walks.list hd _ a hne vs.toArray) (by simp [q.length]) ⟨⟨_, Heap.get?_push_size _ rfl, rfl, rfl⟩, p.isList.at fun o => push_keeps _ _ a o⟩ (fp_two z) (fun j v hj p => ?_) fun i h st => ?_
    · have p : vs[j]? = some v := by simpa using p
      obtain ⟨v', hv, rv⟩ := q.get (i := j) (t := ts[j]) (by simp [hj])
      rw [hv] at p; cases p
      exact ⟨_, by simp [hj], rv⟩
    · obtain ⟨⟨o, ho, hc, _⟩, _⟩ := st
      exact ⟨o, _, ho, hc, by decide⟩
  · rename_i us
    first | exact nn e | exact nf e | first | exact nn e | exact nf e | cases e
    obtain ⟨a, vs, rfl, z, p, q⟩ := r
    have hne : a ≠ s.heap.objs.size := Nat.ne_of_lt (Iv.zlt a z)
    have pt : s.heap.IsTuple a vs.toArray := let ⟨n, e⟩ := p; ⟨_, e, rfl, n, rfl⟩
    have pt' : (s.heap.push { cls := .type "tuple_iterator", data := .fields #[.ref a, .int 0 0] }).IsTuple a vs.toArray := let ⟨n, e⟩ := p; ⟨_, push_keeps _ _ a _ e, rfl, n, rfl⟩
    refine wpAny_pyIter_tuple pt ?_
    refine PSrc.new Iv hlo (Walks.tuple hd _ a hne vs.toArray) (by simp [q.length]) ⟨⟨_, Heap.get?_push_size _ rfl, rfl, rfl⟩, pt'⟩ (fp_two z) (fun j v hj p => ?_) fun i h st => ?_
    · have p : vs[j]? = some v := by simpa using p
      obtain ⟨v', hv, rv⟩ := q.get (i := j) (t := ts[j]) (by simp [hj])
      rw [hv] at p; cases p
      exact ⟨_, by simp [hj], rv⟩
    · obtain ⟨⟨o, ho, hc, _⟩, _⟩ := st
      exact ⟨o, _, ho, hc, by decide⟩
  · rename_i ks us
    first | exact nn e | exact nf e | first | exact nn e | exact nf e | cases e
    obtain ⟨a, vs, rfl, z, ⟨hm, p⟩, q⟩ := r
    have hne : a ≠ s.heap.objs.size := Nat.ne_of_lt (Iv.zlt a z)
    rcases p with ⟨kvs, ⟨o, es, ep, ho, h1, h2, h3⟩, rfl, rfl⟩ | ⟨kvs, ⟨o, es, ep, ho, h1, h2, h3⟩, rfl, rfl⟩
    · have d : s.heap.DictAt (intKind B.prog B.w) a kvs ep := ⟨o, es, ho, h1, h2, h3⟩
      refine wpAny_pyIter_dict hm d ?_
      refine PSrc.new Iv hlo (Walks.dictKeys hd _ a hne kvs ep) (by simp) ⟨⟨_, Heap.get?_push_size _ rfl, rfl, rfl⟩, d.at' fun o => push_keeps _ _ a o⟩ (fp_two z) (fun j v hj p => ?_) fun i h st => ?_
      · obtain ⟨k, x, e1, e2⟩ := p
        obtain ⟨t, rfl⟩ := Value.isInt_shape e2
        exact ⟨.int k, by simp [e1, keyT], t, rfl⟩
      · obtain ⟨⟨o, ho, hc, _⟩, _⟩ := st
        exact ⟨o, _, ho, hc, by decide⟩
    · have d : s.heap.DictAt (PySem.strKind B.prog B.w) a kvs ep := ⟨o, es, ho, h1, h2, h3⟩
      refine wpAny_pyIter_dict hm d ?_
      refine PSrc.new Iv hlo (Walks.dictKeys hd _ a hne kvs ep) (by simp) ⟨⟨_, Heap.get?_push_size _ rfl, rfl, rfl⟩, d.at' fun o => push_keeps _ _ a o⟩ (fp_two z) (fun j v hj p => ?_) fun i h st => ?_
      · obtain ⟨k, x, e1, e2⟩ := p
        obtain ⟨t, rfl⟩ := Value.isStrOf_shape e2
        exact ⟨.str k, by simp [e1, keyT], t, rfl⟩
      · obtain ⟨⟨o, ho, hc, _⟩, _⟩ := st
        exact ⟨o, _, ho, hc, by decide⟩
  · rename_i b
    first | exact nn e | exact nf e | first | exact nn e | exact nf e | cases e
    obtain ⟨k, rfl⟩ := r
    refine KBw.pyIter_bytes ?_
    refine PSrc.new Iv hlo (KBw.walks hd _ b.toArray k) (by simp [toks]) ⟨_, Heap.get?_push_size _ rfl, rfl, rfl⟩ fp_one (fun j v hj p => ?_) fun i h st => ?_
    · obtain ⟨c, u, e1, rfl⟩ := p
      have e1 : b[j]? = some c := by simpa using e1
      exact ⟨.int c.toNat, by simp [toks, e1], u, rfl⟩
    · obtain ⟨o, ho, hc, _⟩ := st
      exact ⟨o, _, ho, hc, by decide⟩
  · first | exact nn e | exact nf e | first | exact nn e | exact nf e | cases e
end
end Mine
end
section
set_option maxRecDepth 100000
set_option autoImplicit false
namespace Mine
open PySem PySem.W PyProof.Rows

section
variable {B : Base} {R : Rec} {n : Nat} {g g' : Gh} {σ σ' σ₁ σ₂ : Sg} {A : Around} {s s₁ s₂ : Shared} {env : Env} {cx : Cx} {Γ : Ga} {lo : Nat} {ts : List T} {it : Value} {h h' : Heap}

set_option tactic.hygienic false in
theorem keeper_plain {f : Value} (hf : ∀ a, f ≠ .ref a) (h : Heap) : ∃ k, (k = Keeper.frame ∨ k = Keeper.machine ∨ k = Keeper.boundFrame) ∧ Looks (BM B) h (keeperOf f) k := by
  refine ⟨.machine, .inr (.inl rfl), fun A Q E s _ q => ?_⟩
  unfold keeperOf
  cases f <;> first | exact wpAny_pure q | exact absurd rfl (hf _)

set_option tactic.hygienic false in
theorem rsize (a b : Int) : Builtin.Range.rangeSize a b 1 = ((b - a).toNat : Int) := by
  unfold Builtin.Range.rangeSize
  rw [if_pos (by decide)]
  split
  · rw [Int.ediv_one]; omega
  · omega
set_option tactic.hygienic false in
theorem intOk_le {n : Int} (h : intOk n = true) : -1000000 ≤ n ∧ n ≤ 1000000 := by
  unfold intOk at h
  have := Bool.and_eq_true_iff.mp h
  exact ⟨of_decide_eq_true this.1, of_decide_eq_true this.2⟩
set_option tactic.hygienic false in
theorem fitsL {n : Int} (h : -10000000 ≤ n) (h2 : n ≤ 10000000) : Builtin.Range.rangeFitsLong n = true := by
  unfold Builtin.Range.rangeFitsLong
  simp only [Bool.and_eq_true, decide_eq_true_eq]
  omega
set_option tactic.hygienic false in
theorem rsmall {a b : Int} (ha : intOk a = true) (hb : intOk b = true) : Builtin.Range.small a b 1 = true := by
  have := intOk_le ha
  have := intOk_le hb
  unfold Builtin.Range.small
  rw [rsize, fitsL (by omega) (by omega), fitsL (by omega) (by omega), fitsL (by omega) (by omega), fitsL (n := ((b - a).toNat : Int)) (by omega) (by omega), if_pos (by decide), fitsL (n := b + (1 - 1)) (by omega) (by omega)]
  simp

set_option tactic.hygienic false in
theorem rangeIter_ok (Iv : Inv B g σ s.heap) {a b : Int} (ha : intOk a = true) (hb : intOk b = true) {r : Addr} {t u v : Tok} (hr : IsRange s.heap r a b 1 t u v) (hd : A.handled = none) (hlo : lo ≤ s.heap.objs.size) :
    wpAny (BM B) A (pyIter (.ref r)) (PSrc B A lo g σ s ((List.range (b - a).toNat).map fun (j : Nat) => T.int (a + (j : Int))) σ) no s := by
  refine wpAny_pyIter_range hr (rsmall ha hb) ?_
  refine PSrc.new Iv hlo (LCg.range_walks hd a (b - a).toNat) (by simp) ?_ fp_one (fun j v hj p => ?_) fun i h st => ?_
  · rw [rsize]
    refine (Heap.get?_push_size _ rfl).trans ?_
    simp
  · obtain ⟨t, rfl⟩ := p
    have hj' : j < (b - a).toNat := by simpa using hj
    exact ⟨.int (a + j), by simp [hj'], t, rfl⟩
  · exact ⟨_, _, st, rfl, by decide⟩

set_option tactic.hygienic false in
theorem revIter_ok (Iv : Inv B g σ s.heap) {us : List T} {vs : List Value} {a : Addr} (z : g.Z a) (p : s.heap.PlainList a vs.toArray) (q : RepL B g.Z s.heap us vs) (hd : A.handled = none) (hlo : lo ≤ s.heap.objs.size) :
    wpAny (BM B) A (call (.type "reversed") [.ref a]) (fun v s₁ => wpAny (BM B) A (pyIter v) (PSrc B A lo g σ s us.reverse σ) no s₁) no s := by
  have hne : a ≠ s.heap.objs.size := Nat.ne_of_lt (Iv.zlt a z)
  have hl := q.length
  refine call_reversed_list p.isList ?_
  have hit : Heap.IsRevIter (s.heap.push (revObj a ((vs.toArray.size : Int) - 1))) s.heap.objs.size a ((vs.toArray.size : Int) - 1) := ⟨_, Heap.get?_push_size _ rfl, rfl, rfl⟩
  refine wpAny_pyIter_revIter (s := ⟨s.heap.push (revObj a ((vs.toArray.size : Int) - 1)), s.gens, s.drawn, s.toks, s.os⟩) hit ?_
  refine PSrc.new Iv hlo (Walks.listRev hd _ a hne vs.toArray) (by simp [hl]) ⟨Nat.zero_le _, by simpa using hit, p.isList.at fun o => push_keeps _ _ a o⟩ (fp_two z) (fun j v hj p => ?_) fun i h st => ?_
  · have hj : j < us.length := by simpa using hj
    have p : vs[vs.length - 1 - j]? = some v := by simpa using p
    obtain ⟨v', hv, rv⟩ := q.get (i := us.length - 1 - j) (t := us[us.length - 1 - j]'(by omega)) (by rw [List.getElem?_eq_getElem])
    rw [hl, hv] at p; cases p
    exact ⟨_, by rw [List.getElem?_reverse hj, List.getElem?_eq_getElem], rv⟩
  · obtain ⟨_, ⟨o, ho, hc, _⟩, _⟩ := st
    exact ⟨o, _, ho, hc, by decide⟩

set_option tactic.hygienic false in
theorem srcG_inv {e : Expr} (h : srcG R cx Γ σ e = some (ts, σ')) : ∃ v σ₁ t, R.e cx Γ σ e = some (v, σ₁) ∧ frz σ₁ v = some (t, σ') ∧ itemsOf t = some ts := by
  unfold srcG at h
  induction q1 : R.e cx Γ σ e using Option.casesOn with
  | none => rw [q1] at h; first | exact nn h | exact nf h | first | exact nn h | exact nf h | cases h
  | some p =>
    obtain ⟨v, σ₁⟩ := p
    rw [q1] at h
    induction q2 : frz σ₁ v using Option.casesOn with
    | none => simp only [q2] at h; first | exact nn h | exact nf h | first | exact nn h | exact nf h | cases h
    | some p =>
      obtain ⟨t, σ₂⟩ := p
      simp only [q2] at h
      induction q : itemsOf t using Option.casesOn with
      | none => rw [q] at h; first | exact nn h | exact nf h | first | exact nn h | exact nf h | cases h
      | some l => rw [q] at h; cases h; exact ⟨v, σ₁, t, rfl, q2, q⟩
set_option tactic.hygienic false in
theorem biOf_inv {o : Option AV} {b : BI} (h : biOf o = some b) : o = some (.t (.bi b)) := by
  induction o using Option.casesOn with
  | none => first | exact nn h | exact nf h | first | exact nn h | exact nf h | cases h
  | some a => induction a using AV.casesOn with
    | own => first | exact nn h | exact nf h | first | exact nn h | exact nf h | cases h
    | t x => cases x <;> first | (cases h; done) | (cases h; rfl)
set_option tactic.hygienic false in
theorem rangeL_inv {as : List AV} (h : rangeL as = some ts) : (∃ n, as = [.t (.int n)] ∧ intOk n = true ∧ ts = (List.range n.toNat).map (fun (j : Nat) => T.int (j : Int))) ∨
    ∃ a b, as = [.t (.int a), .t (.int b)] ∧ intOk a = true ∧ intOk b = true ∧ ts = (List.range (b - a).toNat).map (fun (j : Nat) => T.int (a + (j : Int))) := by
  induction as using List.casesOn with
  | nil => first | exact nn h | exact nf h | first | exact nn h | exact nf h | cases h
  | cons a r => induction r using List.casesOn with
    | nil => induction a using AV.casesOn with
      | own => first | exact nn h | exact nf h | first | exact nn h | exact nf h | cases h
      | t x => induction x using T.casesOn with
        | int n =>
          have h : (if intOk n then some ((List.range n.toNat).map (fun (j : Nat) => T.int (j : Int))) else none) = some ts := h
          by_cases q : intOk n = true
          · rw [if_pos q] at h; cases h; exact .inl ⟨n, rfl, q, rfl⟩
          · rw [if_neg q] at h; first | exact nn h | exact nf h | first | exact nn h | exact nf h | cases h
        | _ => first | exact nn h | exact nf h | first | exact nn h | exact nf h | cases h
    | cons b r => induction r using List.casesOn with
      | cons _ _ => first | exact nn h | exact nf h | first | exact nn h | exact nf h | cases h
      | nil => induction a using AV.casesOn with
        | own => first | exact nn h | exact nf h | first | exact nn h | exact nf h | cases h
        | t x => induction x using T.casesOn with
          | int n => induction b using AV.casesOn with
            | own => first | exact nn h | exact nf h | first | exact nn h | exact nf h | cases h
            | t y => induction y using T.casesOn with
              | int k =>
                have h : (if intOk n && intOk k then some ((List.range (k - n).toNat).map (fun (j : Nat) => T.int (n + (j : Int)))) else none) = some ts := h
                by_cases q : (intOk n && intOk k) = true
                · rw [if_pos q] at h; first | exact nn h | exact nf h | first | exact nn h | exact nf h | cases h
                  have q := Bool.and_eq_true_iff.mp q
                  exact .inr ⟨n, k, rfl, q.1, q.2, rfl⟩
                · rw [if_neg q] at h; first | exact nn h | exact nf h | first | exact nn h | exact nf h | cases h
              | _ => first | exact nn h | exact nf h | first | exact nn h | exact nf h | cases h
          | _ => first | exact nn h | exact nf h | first | exact nn h | exact nf h | cases h
set_option tactic.hygienic false in
theorem revL_inv {as : List AV} (h : revL as σ = some (ts, σ')) : ∃ v us, as = [v] ∧ frz σ v = some (.list us, σ') ∧ ts = us.reverse := by
  induction as using List.casesOn with
  | nil => first | exact nn h | exact nf h | first | exact nn h | exact nf h | cases h
  | cons v r => induction r using List.casesOn with
    | cons _ _ => first | exact nn h | exact nf h | first | exact nn h | exact nf h | cases h
    | nil =>
      unfold revL at h
      induction q : frz σ v using Option.casesOn with
      | none => simp only [q] at h; first | exact nn h | exact nf h | first | exact nn h | exact nf h | cases h
      | some p =>
        obtain ⟨t, σ₂⟩ := p
        simp only [q] at h
        cases t with
        | list us =>
          simp only at h
          by_cases z : sizeOk us.length = true
          · rw [if_pos z] at h; cases h; exact ⟨v, us, rfl, q, rfl⟩
          · rw [if_neg z] at h; first | exact nn h | exact nf h | first | exact nn h | exact nf h | cases h
        | _ => first | exact nn h | exact nf h | first | exact nn h | exact nf h | cases h

set_option tactic.hygienic false in
theorem srcG_ok (S : Snd B R n) (hb : Bnd A n) (N : EnvOk cx env) (I : Inv B g σ s.heap) (F : FrameOk B env g σ s.heap Γ) {e : Expr} (h : srcG R cx Γ σ e = some (ts, σ')) (hlo : lo ≤ s.heap.objs.size) :
    wpAny (BM B) A (eval e env) (fun v s₁ => wpAny (BM B) A (pyIter v) (PSrc B A lo g σ s ts σ') no s₁) no s := by
  obtain ⟨v, σ₁, t, e1, e2, e3⟩ := srcG_inv h
  refine goE (S.e _ _ _ _ _ _ e1 A env g s hb N I F) fun v s₁ g₁ x₁ I₁ r₁ av => ?_
  obtain ⟨g₂, I₂, x₂, r₂⟩ := frz_ok I₁ av e2
  exact PSrc.into I (x₁.trans I I₁ x₂) I₂ r₁ (iter_ok I₂ r₂ e3 hb.hd (Nat.le_trans hlo x₁.size))
set_option tactic.hygienic false in
theorem srcRange_ok (W : Facts B) (S : Snd B R n) (hb : Bnd A n) (N : EnvOk cx env) (I : Inv B g σ s.heap) (F : FrameOk B env g σ s.heap Γ) {x : Str} {p p' : Pos} {args : List Expr} {as : List AV} (hx : nameV cx Γ x = some (.t (.bi .range))) (e1 : evs R cx Γ σ args = some (as, σ')) (h : rangeL as = some ts) (hlo : lo ≤ s.heap.objs.size) :
    wpAny (BM B) A (eval (.Call (.Name x p) args [] p') env) (fun v s₁ => wpAny (BM B) A (pyIter v) (PSrc B A lo g σ s ts σ') no s₁) no s := by
  refine wpAny_Call_NameR (goE (name_ok W N I F hx) fun f s₁ g₁ x₁ I₁ r₁ av => ?_)
  have av : f = .type "range" := av
  subst av
  rcases rangeL_inv h with ⟨k, rfl, hk, rfl⟩ | ⟨a, b, rfl, ha, hb', rfl⟩
  · refine callArgs_gen (P := fun _ => True) S hb N _ I₁ (F.ext x₁) e1 (fun h _ => keeper_plain (fun _ => by simp) h) (fun _ _ _ _ => trivial) fun s₂ g₂ vs x₂ I₂ av r₂ => ?_
    obtain ⟨v, r, rfl, ⟨tk, rfl⟩, hr⟩ := av
    have hr : r = [] := hr
    subst hr
    refine call_range_1 ?_
    obtain ⟨I₃, x₃⟩ := I₂.grow0 (h' := s₂.heap.push { cls := .type "range", data := .fields #[.int 0 s₂.toks, .int k tk, .int 1 (s₂.toks + 1)] }) (push_keeps _ _) (by simp)
    have q := rangeIter_ok (lo := lo) (A := A) (s := ⟨s₂.heap.push { cls := .type "range", data := .fields #[.int 0 s₂.toks, .int k tk, .int 1 (s₂.toks + 1)] }, s₂.gens, s₂.drawn, s₂.toks + 1 + 1, s₂.os⟩) I₃ (a := 0) (b := k) (by decide) hk (Heap.get?_push_size _ rfl) hb.hd (Nat.le_trans hlo (Nat.le_trans x₁.size (Nat.le_trans x₂.size x₃.size)))
    simp only [Int.sub_zero, Int.zero_add] at q
    exact wpAny_mono q (fun _ _ ⟨g₄, e, i, r', S⟩ => ⟨g₄, (((x₁.trans I I₁ x₂).trans I I₂ x₃).trans I I₃ e), i, (r₁.trans r₂).trans r', S⟩) fun _ _ y => y
  · refine callArgs_gen (P := fun _ => True) S hb N _ I₁ (F.ext x₁) e1 (fun h _ => keeper_plain (fun _ => by simp) h) (fun _ _ _ _ => trivial) fun s₂ g₂ vs x₂ I₂ av r₂ => ?_
    obtain ⟨v, r, rfl, ⟨tk, rfl⟩, v2, r2, rfl, ⟨tk2, rfl⟩, hr⟩ := av
    have hr : r2 = [] := hr
    subst hr
    refine call_range_2 ?_
    obtain ⟨I₃, x₃⟩ := I₂.grow0 (h' := s₂.heap.push { cls := .type "range", data := .fields #[.int a tk, .int b tk2, .int 1 s₂.toks] }) (push_keeps _ _) (by simp)
    have q := rangeIter_ok (lo := lo) (A := A) (s := ⟨s₂.heap.push { cls := .type "range", data := .fields #[.int a tk, .int b tk2, .int 1 s₂.toks] }, s₂.gens, s₂.drawn, s₂.toks + 1, s₂.os⟩) I₃ ha hb' (Heap.get?_push_size _ rfl) hb.hd (Nat.le_trans hlo (Nat.le_trans x₁.size (Nat.le_trans x₂.size x₃.size)))
    exact wpAny_mono q (fun _ _ ⟨g₄, e, i, r', S⟩ => ⟨g₄, (((x₁.trans I I₁ x₂).trans I I₂ x₃).trans I I₃ e), i, (r₁.trans r₂).trans r', S⟩) fun _ _ y => y
set_option tactic.hygienic false in
theorem srcRev_ok (W : Facts B) (S : Snd B R n) (hb : Bnd A n) (N : EnvOk cx env) (I : Inv B g σ s.heap) (F : FrameOk B env g σ s.heap Γ) {x : Str} {p p' : Pos} {args : List Expr} {as : List AV} (hx : nameV cx Γ x = some (.t (.bi .reversed))) (e1 : evs R cx Γ σ args = some (as, σ₁)) (h : revL as σ₁ = some (ts, σ')) (hlo : lo ≤ s.heap.objs.size) :
    wpAny (BM B) A (eval (.Call (.Name x p) args [] p') env) (fun v s₁ => wpAny (BM B) A (pyIter v) (PSrc B A lo g σ s ts σ') no s₁) no s := by
  refine wpAny_Call_NameR (goE (name_ok W N I F hx) fun f s₁ g₁ x₁ I₁ r₁ av => ?_)
  have av : f = .type "reversed" := av
  subst av
  obtain ⟨v, us, rfl, e2, rfl⟩ := revL_inv h
  refine callArgs_gen (P := fun _ => True) S hb N _ I₁ (F.ext x₁) e1 (fun h _ => keeper_plain (fun _ => by simp) h) (fun _ _ _ _ => trivial) fun s₂ g₂ vs x₂ I₂ av r₂ => ?_
  obtain ⟨v, r, rfl, av, hr⟩ := av
  have hr : r = [] := hr
  subst hr
  obtain ⟨g₃, I₃, x₃, ⟨a, vs, rfl, z, p, q⟩⟩ := frz_ok I₂ av e2
  refine wpAny_mono (revIter_ok I₃ z p q hb.hd (Nat.le_trans hlo (Nat.le_trans x₁.size x₂.size))) (fun v s₃ q => ?_) fun _ _ y => y
  exact wpAny_mono q (fun _ _ ⟨g₄, e, i, r', S⟩ => ⟨g₄, (((x₁.trans I I₁ x₂).trans I I₂ x₃).trans I I₃ e), i, (r₁.trans r₂).trans r', S⟩) fun _ _ y => y
set_option tactic.hygienic false in
theorem srcN_ok (W : Facts B) (S : Snd B R n) (hb : Bnd A n) (N : EnvOk cx env) (I : Inv B g σ s.heap) (F : FrameOk B env g σ s.heap Γ) {x : Str} {p p' : Pos} {args : List Expr} (h : srcN R cx Γ σ x p args p' = some (ts, σ')) (hlo : lo ≤ s.heap.objs.size) :
    wpAny (BM B) A (eval (.Call (.Name x p) args [] p') env) (fun v s₁ => wpAny (BM B) A (pyIter v) (PSrc B A lo g σ s ts σ') no s₁) no s := by
  unfold srcN at h
  induction q : biOf (nameV cx Γ x) using Option.casesOn with
  | none => rw [q] at h; exact srcG_ok S hb N I F h hlo
  | some b =>
    rw [q] at h
    have hx := biOf_inv q
    cases b with
    | range =>
      induction q1 : evs R cx Γ σ args using Option.casesOn with
      | none => simp only [q1] at h; first | exact nn h | exact nf h | first | exact nn h | exact nf h | cases h
      | some r =>
        obtain ⟨as, σ₁⟩ := r
        simp only [q1] at h
        induction q2 : rangeL as using Option.casesOn with
        | none => rw [q2] at h; first | exact nn h | exact nf h | first | exact nn h | exact nf h | cases h
        | some l => rw [q2] at h; cases h; exact srcRange_ok W S hb N I F hx q1 q2 hlo
    | reversed =>
      induction q1 : evs R cx Γ σ args using Option.casesOn with
      | none => simp only [q1] at h; first | exact nn h | exact nf h | first | exact nn h | exact nf h | cases h
      | some r =>
        obtain ⟨as, σ₁⟩ := r
        simp only [q1] at h
        exact srcRev_ok W S hb N I F hx q1 h hlo
    | _ => exact srcG_ok S hb N I F h hlo
set_option tactic.hygienic false in
theorem srcE_ok (W : Facts B) (S : Snd B R n) (hb : Bnd A n) (N : EnvOk cx env) (I : Inv B g σ s.heap) (F : FrameOk B env g σ s.heap Γ) {e : Expr} (h : srcE R cx Γ σ e = some (ts, σ')) (hlo : lo ≤ s.heap.objs.size) :
    wpAny (BM B) A (eval e env) (fun v s₁ => wpAny (BM B) A (pyIter v) (PSrc B A lo g σ s ts σ') no s₁) no s := by
  induction e using PySem.Expr.casesOn with
  | Call f args kws p' => induction f using PySem.Expr.casesOn with
    | Name x p => induction kws using List.casesOn with
      | nil => exact srcN_ok W S hb N I F h hlo
      | cons k ks => exact srcG_ok S hb N I F h hlo
    | _ => exact srcG_ok S hb N I F h hlo
  | Set => first | exact nn h | exact nf h | first | exact nn h | exact nf h | cases h
  | _ => exact srcG_ok S hb N I F h hlo
end
end Mine
end
section
set_option maxRecDepth 100000
set_option autoImplicit false
namespace Mine
open PySem PySem.W PyProof.Rows

section
variable {B : Base} {R : Rec} {n : Nat} {g g' : Gh} {σ σ' σ₁ σ₂ : Sg} {A : Around} {s s₁ s₂ : Shared} {env : Env} {cx : Cx} {Γ Γ' : Ga} {lo : Nat} {ts : List T} {it : Value} {h h' : Heap}

/-- what binding names may touch -/
noncomputable def XC (cx : Cx) (env : Env) (a : Addr) : Prop := a = env.locals ∨ ∃ x, lkS x cx.names = some .cell ∧ env.cells.lookup x = some a
theorem XC.xe {a : Addr} (x : XC cx env a) : XE env a := x.imp id fun ⟨x, _, e⟩ => ⟨x, e⟩
/-- names were bound: nothing else has changed -/
noncomputable def PBind (B : Base) (cx : Cx) (env : Env) (g : Gh) (σ : Sg) (s : Shared) (Γ' : Ga) (s' : Shared) : Prop :=
  Ext (XC cx env) g σ s.heap g σ s'.heap ∧ Inv B g σ s'.heap ∧ FrameOk B env g σ s'.heap Γ' ∧ SameRest s s'

theorem bindN_ok (N : EnvOk cx env) (I : Inv B g σ s.heap) (F : FrameOk B env g σ s.heap Γ) {x : Str} {a : AV} {v : Value} (av : AVal B g s.heap σ a v) (e : bindN cx x a Γ = some Γ') :
    wpAny (BM B) A (storeName env x v) (fun _ s' => PBind B cx env g σ s Γ' s') no s := by
  have hgen : (lkS x cx.names = some .local ∨ lkS x cx.names = some .cell) ∧ Γ' = putS x a Γ := by
    unfold bindN at e
    split at e
    · rename_i q; cases e; exact ⟨.inl q, rfl⟩
    · rename_i q; cases e; exact ⟨.inr q, rfl⟩
    · first | exact nn e | exact nf e | first | exact nn e | exact nf e | cases e
  obtain ⟨hk, rfl⟩ := hgen
  obtain ⟨m, hn, hm⟩ := F.ns
  have hnm : (env.scope.kind == .class || (env.scope.kind == .module && env.locals != env.globals)) = false := by rw [N.kind]; rfl
  rcases hk with hk | hk
  · have hl : env.kindOf x = some .local := N.names _ _ hk
    refine wpAny_storeName_local hl hn (fun h' hn' hs => ?_) hnm
    obtain ⟨I', x'⟩ := I.setFree F.lz F.lo hs
    refine ⟨x'.weaken fun a q => .inl q, I', ⟨⟨_, hn', fun y b e k => ?_⟩, fun y b e k => ?_, fun y c e => ?_, F.lz, F.lo, F.cz, F.cinj⟩, rfl, rfl, rfl⟩
    · rw [lkS_put] at e
      by_cases q : y = x
      · rw [if_pos q] at e; first | exact nn e | exact nf e | first | exact nn e | exact nf e | cases e
        exact ⟨v, if_pos q, x'.aval av⟩
      · rw [if_neg q] at e
        obtain ⟨u, e1, e2⟩ := hm y b e k
        exact ⟨u, (if_neg q).trans e1, x'.aval e2⟩
    · rw [lkS_put] at e
      by_cases q : y = x
      · subst q; rw [hl] at k; cases k
      · rw [if_neg q] at e
        obtain ⟨c, u, e1, ⟨o, ho, hd⟩, e2⟩ := F.cell y b e k
        exact ⟨c, u, e1, ⟨o, (hs.2 c (F.cz y c e1).2.2).trans ho, hd⟩, x'.aval e2⟩
    · obtain ⟨u, o, ho, hd⟩ := F.has y c e
      exact ⟨u, o, (hs.2 c (F.cz y c e).2.2).trans ho, hd⟩
  · have hl : env.kindOf x = some .cell := N.names _ _ hk
    obtain ⟨c, hc⟩ := N.cells x hl
    obtain ⟨u, hu⟩ := F.has x c hc
    refine wpAny_storeName_cell N.kind hl hc hu fun h' hn' hs => ?_
    obtain ⟨I', x'⟩ := I.setFree (F.cz x c hc).1 (F.cz x c hc).2.1 hs
    refine ⟨x'.weaken fun a q => .inr ⟨x, hk, q ▸ hc⟩, I', ⟨⟨m, ?_, fun y b e k => ?_⟩, fun y b e k => ?_, fun y c' e => ?_, F.lz, F.lo, F.cz, F.cinj⟩, rfl, rfl, rfl⟩
    · obtain ⟨o, es, ep, ho, r⟩ := hn
      exact ⟨o, es, ep, (hs.2 _ (Ne.symm (F.cz x c hc).2.2)).trans ho, r⟩
    · rw [lkS_put] at e
      by_cases q : y = x
      · subst q; rw [hl] at k; cases k
      · rw [if_neg q] at e
        obtain ⟨u, e1, e2⟩ := hm y b e k
        exact ⟨u, e1, x'.aval e2⟩
    · rw [lkS_put] at e
      by_cases q : y = x
      · rw [if_pos q] at e; first | exact nn e | exact nf e | first | exact nn e | exact nf e | cases e
        subst q
        exact ⟨c, v, hc, hn', x'.aval av⟩
      · rw [if_neg q] at e
        obtain ⟨c', u, e1, ⟨o, ho, hd⟩, e2⟩ := F.cell y b e k
        have : c' ≠ c := fun w => q (F.cinj y x c' e1 (w ▸ hc))
        exact ⟨c', u, e1, ⟨o, (hs.2 c' this).trans ho, hd⟩, x'.aval e2⟩
    · by_cases q : c' = c
      · subst q; exact ⟨_, hn'⟩
      · obtain ⟨u, o, ho, hd⟩ := F.has y c' e
        exact ⟨u, o, (hs.2 c' q).trans ho, hd⟩

theorem PBind.refl (I : Inv B g σ s.heap) (F : FrameOk B env g σ s.heap Γ) : PBind B cx env g σ s Γ s := ⟨Ext.refl, I, F, SameRest.refl⟩
theorem PBind.trans (I : Inv B g σ s.heap) {Γ₁ Γ₂ : Ga} (x : PBind B cx env g σ s Γ₁ s₁) (y : PBind B cx env g σ s₁ Γ₂ s₂) : PBind B cx env g σ s Γ₂ s₂ :=
  ⟨x.1.trans I x.2.1 y.1, y.2.1, y.2.2.1, x.2.2.2.trans y.2.2.2⟩

set_option tactic.hygienic false in
theorem bindNs_inv {ex : Expr} {es : List Expr} {ts : List T} (e : bindNs cx (ex :: es) ts Γ = some Γ') : ∃ x p t ts' Γ₁, ex = .Name x p ∧ ts = t :: ts' ∧ bindN cx x (.t t) Γ = some Γ₁ ∧ bindNs cx es ts' Γ₁ = some Γ' := by
  refine pgen fun P hP => ?_
  induction ex using PySem.Expr.casesOn with
  | Name x p => induction ts using List.casesOn with
    | nil => first | exact nn e | exact nf e | first | exact nn e | exact nf e | cases e
    | cons t ts' =>
      have e : (match bindN cx x (.t t) Γ with
        | some Γ => bindNs cx es ts' Γ
        | none => none) = some Γ' := e
      induction q : bindN cx x (.t t) Γ using Option.casesOn with
      | none => rw [q] at e; first | exact nn e | exact nf e | first | exact nn e | exact nf e | cases e
      | some Γ₁ => rw [q] at e; exact hP ⟨x, p, t, ts', Γ₁, rfl, rfl, q, e⟩
  | _ => first | exact nn e | exact nf e | first | exact nn e | exact nf e | cases e
theorem bindNs_static : ∀ (es : List Expr) (ts : List T) {Γ Γ' : Ga} (_ : bindNs cx es ts Γ = some Γ'), (assignEach es env).length = ts.length ∧ (assignEach es env).findIdx? (·.1) = none
  | [], [], _, _, _ => ⟨rfl, rfl⟩
  | [], _ :: _, _, _, e => by cases e
  | ex :: es, ts, Γ, Γ', e => by
    obtain ⟨x, p, t, ts', Γ₁, rfl, rfl, e1, e2⟩ := bindNs_inv e
    have ih := bindNs_static es ts' e2
    have ea : assignEach (.Name x p :: es) env = (false, assign (.Name x p) env) :: assignEach es env := rfl
    rw [ea]
    exact ⟨by rw [List.length_cons, List.length_cons, ih.1], by rw [List.findIdx?_cons]; simp [ih.2]⟩
theorem bindNs_ok (N : EnvOk cx env) : ∀ (es : List Expr) (ts : List T) {Γ Γ' : Ga} {s : Shared} {vs : List Value} (_ : Inv B g σ s.heap) (_ : FrameOk B env g σ s.heap Γ) (_ : RepL B g.Z s.heap ts vs) (_ : bindNs cx es ts Γ = some Γ'),
    wpAny (BM B) A (assignInOrder ((assignEach es env).map (·.2)) vs) (fun _ s' => PBind B cx env g σ s Γ' s') no s
  | [], [], Γ, Γ', s, vs, I, F, r, e => by
    first | exact nn e | exact nf e | first | exact nn e | exact nf e | cases e
    rw [show vs = [] from r]
    exact wpAny_assignInOrder_none (PBind.refl I F)
  | [], _ :: _, _, _, _, _, _, _, _, e => by cases e
  | ex :: es, ts, Γ, Γ', s, vs, I, F, r, e => by
    obtain ⟨x, p, t, ts', Γ₁, rfl, rfl, e1, e2⟩ := bindNs_inv e
    obtain ⟨v, rs, rfl, rv, rr⟩ := r
    have ea : assignEach (.Name x p :: es) env = (false, assign (.Name x p) env) :: assignEach es env := rfl
    rw [ea, List.map_cons]
    refine wpAny_assignInOrder_more (wpAny_assign_Name (wpAny_mono (bindN_ok (A := A) N I F (a := .t t) rv e1) (fun _ s₁ y => ?_) fun _ _ y => y))
    exact wpAny_mono (bindNs_ok N es ts' y.2.1 y.2.2.1 (y.1.repL rr) e2) (fun _ s₂ z => PBind.trans I y z) fun _ _ y => y

set_option tactic.hygienic false in
theorem bindT_ok (N : EnvOk cx env) (hd : A.handled = none) (I : Inv B g σ s.heap) (F : FrameOk B env g σ s.heap Γ) {tg : Expr} {t : T} {v : Value} (r : Rep B g.Z s.heap t v) (e : bindT cx tg t Γ = some Γ') :
    wpAny (BM B) A (assign tg env v) (fun _ s' => PBind B cx env g σ s Γ' s') no s := by
  refine wpAny_gen fun Q hQ => ?_
  induction tg using PySem.Expr.casesOn with
  | Name x p => exact wpAny_mono (wpAny_assign_Name (bindN_ok N I F (a := .t t) r e)) hQ fun _ _ y => y
  | Tuple es k p => induction t using T.casesOn with
    | tup ts =>
      have e : bindNs cx es ts Γ = some Γ' := e
      obtain ⟨a, vs, rfl, z, ⟨n, p'⟩, q⟩ := r
      have ht : s.heap.IsTuple a vs.toArray := ⟨_, p', rfl, n, rfl⟩
      obtain ⟨hl, hf⟩ := bindNs_static (env := env) es ts e
      rw [arm_assign_Tuple]
      refine wpAny_bind (wpAny_standAt ?_)
      unfold unpack
      have hn : (assignEach es env).length = vs.toArray.size := by rw [hl, ← q.length]; simp
      rw [hn, hf]
      refine wpAny_bind (wpAny_holding (wpAny_size (wpAny_unpackItems_tuple hd ht fun h' hx sz => ?_)))
      obtain ⟨I', x'⟩ := I.grow0 (h' := h') (fun b o eo => hx b o (Nat.ne_of_lt (Heap.lt_size eo)) eo) sz
      have y := (bindNs_ok (A := A) N es ts (s := ⟨h', s.gens, s.drawn, s.toks, s.os⟩) I' (F.ext x') (x'.repL q) e)
      exact wpAny_mono y (fun _ s' z => hQ _ _ ⟨(x'.weaken fun _ q => q.elim).trans I I' z.1, z.2.1, z.2.2.1, SameRest.trans ⟨rfl, rfl, rfl⟩ z.2.2.2⟩) fun _ _ y => y
    | _ => first | exact nn e | exact nf e | first | exact nn e | exact nf e | cases e
  | _ => first | exact nn e | exact nf e | first | exact nn e | exact nf e | cases e
end
end Mine
end
section
set_option maxRecDepth 100000
set_option autoImplicit false
namespace Mine
open PySem PySem.W PyProof.Rows

section
variable {B : Base} {R : Rec} {n : Nat} {g g' : Gh} {σ σ' σ₁ σ₂ : Sg} {A : Around} {s s₁ s₂ : Shared} {env : Env} {cx : Cx} {Γ Γ' : Ga} {lo hi : Nat} {ts : List T} {it : Value} {h h' : Heap} {fl : Fl}

theorem FrameOk.below (F : FrameOk B env g σ h Γ) : ∀ a, XE env a → a < h.objs.size := fun a q => by
  rcases q with rfl | ⟨x, e⟩
  · obtain ⟨m, hn, _⟩ := F.ns; exact hn.lt
  · obtain ⟨v, hv⟩ := F.has x a e; exact hv.lt
theorem FrameOk.extLo (F : FrameOk B env g σ h Γ) (hlo : ∀ a, XE env a → a < lo) (x : Ext (fun a => lo ≤ a ∧ a < hi) g σ h g' σ' h') : FrameOk B env g' σ' h' Γ :=
  F.extX x (fun q => absurd (hlo _ (.inl rfl)) (Nat.not_lt_of_le q.1)) fun y _ e q => absurd (hlo _ (.inr ⟨y, e⟩)) (Nat.not_lt_of_le q.1)

/-  an expression that is no set display -/
set_option tactic.hygienic false in
theorem src_notSet {e : Expr} {r : List T × Sg} (h : srcE R cx Γ σ e = some r) : ∀ x, foldedSetIterable e env x = pure x := by
  intro x
  unfold foldedSetIterable
  cases e <;> first | rfl | exact nn h

theorem FrameOk.sub (F : FrameOk B env g σ h Γ) (k : ∀ x a, lkS x Γ' = some a → lkS x Γ = some a) : FrameOk B env g σ h Γ' :=
  ⟨let ⟨m, hn, hm⟩ := F.ns; ⟨m, hn, fun x a e => hm x a (k x a e)⟩, fun x a e => F.cell x a (k x a e), F.has, F.lz, F.lo, F.cz, F.cinj⟩
theorem dropS_sub (y : Str) : ∀ {Γ : Ga} (x : Str) (a : AV), lkS x (dropS y Γ) = some a → lkS x Γ = some a
  | [], _, _, e => by cases e
  | (z, v) :: r, x, a, e => by
    unfold dropS at e
    have cons : ∀ (r : Ga), lkS x ((z, v) :: r) = match sEq x z with | true => some v | false => lkS x r := fun _ => rfl
    rw [cons]
    induction q : sEq y z using Bool.casesOn with
    | true =>
      rw [q] at e
      have e' := dropS_sub y x a e
      induction w : sEq x z using Bool.casesOn with
      | true =>
        have e1 := (sEq_iff _ _).mp w
        have e2 := (sEq_iff _ _).mp q
        subst e1; subst e2
        exfalso
        clear e' w q cons
        induction r with
        | nil => first | exact nn e | exact nf e | first | exact nn e | exact nf e | cases e
        | cons p r ih =>
          obtain ⟨t, u⟩ := p
          unfold dropS at e
          induction q : sEq y t using Bool.casesOn with
          | true => rw [q] at e; exact ih e
          | false =>
            rw [q] at e
            have cons : lkS y ((t, u) :: dropS y r) = match sEq y t with | true => some u | false => lkS y (dropS y r) := rfl
            dsimp only at e
            rw [cons, q] at e
            exact ih e
      | false => exact e'
    | false =>
      rw [q] at e
      have cons' : lkS x ((z, v) :: dropS y r) = match sEq x z with | true => some v | false => lkS x (dropS y r) := rfl
      dsimp only at e
      rw [cons'] at e
      induction w : sEq x z using Bool.casesOn with
      | true => rw [w] at e; exact e
      | false => rw [w] at e; exact dropS_sub y x a e
theorem dropEs_sub : ∀ (es : List Expr) {Γ : Ga} (x : Str) (a : AV), lkS x (dropEs es Γ) = some a → lkS x Γ = some a
  | [], _, _, _, e => e
  | ex :: es, Γ, x, a, e => by
    induction ex using PySem.Expr.casesOn with
    | Name y p => exact dropS_sub y x a (dropEs_sub es x a e)
    | _ => exact e
set_option tactic.hygienic false in
theorem dropT_sub (tg : Expr) (x : Str) (a : AV) (e : lkS x (dropT tg Γ) = some a) : lkS x Γ = some a := by
  induction tg using PySem.Expr.casesOn with
  | Name y p => exact dropS_sub y x a e
  | Tuple es k p => exact dropEs_sub es x a e
  | _ => exact e
inductive ForP (B : Base) (env : Env) (lo : Nat) (g : Gh) (σ : Sg) (s : Shared) (fl : Fl) (Γ' : Ga) (σ' : Sg) (r : Result) (s' : Shared) : Prop
  | mk (f : Flow) (e : r = .ok f) (g' : Gh) (x : Ext (fun a => XE env a ∨ lo ≤ a) g σ s.heap g' σ' s'.heap) (i : Inv B g' σ' s'.heap) (fr : FrameOk B env g' σ' s'.heap Γ') (fi : FlIs B g' s'.heap σ' fl f) (q : SameRest s s') : ForP B env lo g σ s fl Γ' σ' r s'
inductive ForJ (B : Base) (A : Around) (R : Rec) (cx : Cx) (env : Env) (lo hi : Nat) (g : Gh) (σ : Sg) (s : Shared) (tg : Expr) (body : List Stmt) (it : Value) (fl : Fl) (Γ' : Ga) (σ' : Sg) (k : Nat) (s₁ : Shared) : Prop
  | mk (us : List T) (Γ₁ : Ga) (σ₁ : Sg) (g₁ : Gh) (hk : k = us.length) (x₁ : Ext (fun a => XE env a ∨ lo ≤ a) g σ s.heap g₁ σ₁ s₁.heap) (I₁ : Inv B g₁ σ₁ s₁.heap) (F₁ : FrameOk B env g₁ σ₁ s₁.heap Γ₁) (r₁ : SameRest s s₁) (S₁ : Src B A lo hi g₁ σ₁ s₁.heap us it)
    (e₁ : forL R cx tg body Γ₁ σ₁ us = some (fl, Γ', σ')) : ForJ B A R cx env lo hi g σ s tg body it fl Γ' σ' k s₁
inductive WhJ (B : Base) (R : Rec) (cx : Cx) (env : Env) (g : Gh) (σ : Sg) (s : Shared) (c : Expr) (body : List Stmt) (fl : Fl) (Γ' : Ga) (σ' : Sg) (k : Nat) (s₁ : Shared) : Prop
  | mk (Γ₁ : Ga) (σ₁ : Sg) (g₁ : Gh) (x₁ : Ext (XE env) g σ s.heap g₁ σ₁ s₁.heap) (I₁ : Inv B g₁ σ₁ s₁.heap) (F₁ : FrameOk B env g₁ σ₁ s₁.heap Γ₁) (r₁ : SameRest s s₁) (e₁ : whileL R cx c body k Γ₁ σ₁ = some (fl, Γ', σ')) : WhJ B R cx env g σ s c body fl Γ' σ' k s₁
theorem forLoop_ok (S : Snd B R n) (hb : Bnd A n) (N : EnvOk cx env) {tg : Expr} {body : List Stmt} (I : Inv B g σ s.heap) (F : FrameOk B env g σ s.heap Γ) (hlo : ∀ a, XE env a → a < lo)
    (Sr : Src B A lo hi g σ s.heap ts it) (e : forL R cx tg body Γ σ ts = some (fl, Γ', σ')) :
    codeAny (BM B) A (.forLoop tg it body [] env) (ForP B env lo g σ s fl Γ' σ') s := by
  refine codeAny_gen fun RR hR => ?_
  obtain ⟨J, hJ⟩ : ∃ J : Nat → Shared → Prop, ∀ k s₁, J k s₁ ↔ ForJ B A R cx env lo hi g σ s tg body it fl Γ' σ' k s₁ := ⟨_, fun _ _ => Iff.rfl⟩
  refine codeAny_forLoop_any J ?_ ts.length ((hJ _ _).mpr ⟨ts, Γ, σ, g, rfl, Ext.refl, I, F, SameRest.refl, Sr, e⟩)
  intro k s₁ hj
  obtain ⟨us, Γ₁, σ₁, g₁, rfl, x₁, I₁, F₁, r₁, S₁, e₁⟩ := (hJ _ _).mp hj
  clear hj
  induction us using List.casesOn with
  | nil =>
    unfold forL at e₁
    first | exact nn e₁ | exact nf e₁ | first | exact nn e₁ | exact nf e₁ | cases e₁
    refine wpAny_mono (S₁.done I₁) (fun r s₂ ⟨hr, I₂, x₂, r₂⟩ => ?_) fun _ _ y => y.elim
    subst hr
    exact wpAny_execs_nil (hR _ _ ⟨_, rfl, g₁, x₁.trans I I₁ (x₂.weaken fun _ q => .inr q.1), I₂, (F₁.extLo hlo x₂).sub (dropT_sub tg), rfl, r₁.trans r₂⟩)
  | cons t us =>
    unfold forL at e₁
    split at e₁
    · rename_i Γ₂ e₂
      refine wpAny_mono (S₁.next I₁) (fun r s₂ ⟨v, hr, rv, I₂, x₂, r₂, S₂⟩ => ?_) fun _ _ y => y.elim
      subst hr
      have F₂ := F₁.extLo hlo x₂
      have x12 := x₁.trans I I₁ (x₂.weaken (Y := fun a => XE env a ∨ lo ≤ a) fun _ q => .inr q.1)
      refine S₂.go tg v ?_
      refine wpAny_mono (bindT_ok N hb.hd I₂ F₂ rv e₂) (fun _ s₃ ⟨x₃, I₃, F₃, r₃⟩ => ?_) fun _ _ y => y.elim
      have S₃ := S₂.ext x₃ fun a q => .inl (hlo a q.xe)
      have x13 := x12.trans I I₂ (x₃.weaken (Y := fun a => XE env a ∨ lo ≤ a) fun _ q => .inl q.xe)
      split at e₁
      · rename_i Γ₃ σ₃ e₃
        refine wpAny_mono (S.x _ _ _ _ _ _ _ e₃ A env g₁ s₃ hb N I₃ F₃) (fun f s₄ ⟨g₄, x₄, I₄, F₄, hf, r₄⟩ => ?_) fun _ _ y => y.elim
        rw [show f = .next from hf]
        exact ⟨us.length, Nat.lt_succ_self _, (hJ _ _).mpr ⟨us, Γ₃, σ₃, g₄, rfl, x13.trans I I₃ (x₄.weaken fun _ q => .inl q), I₄, F₄, ((r₁.trans r₂).trans r₃).trans r₄, S₃.ext x₄ fun a q => .inl (hlo a q), e₁⟩⟩
      · rename_i w Γ₃ σ₃ e₃
        first | exact nn e₁ | exact nf e₁ | first | exact nn e₁ | exact nf e₁ | cases e₁
        refine wpAny_mono (S.x _ _ _ _ _ _ _ e₃ A env g₁ s₃ hb N I₃ F₃) (fun f s₄ ⟨g₄, x₄, I₄, F₄, hf, r₄⟩ => ?_) fun _ _ y => y.elim
        obtain ⟨u, rfl, au⟩ := hf
        exact hR _ _ ⟨_, rfl, g₄, x13.trans I I₃ (x₄.weaken fun _ q => .inl q), I₄, F₄, ⟨u, rfl, au⟩, ((r₁.trans r₂).trans r₃).trans r₄⟩
      · first | exact nn e₁ | exact nf e₁ | first | exact nn e₁ | exact nf e₁ | cases e₁
    · first | exact nn e₁ | exact nf e₁ | first | exact nn e₁ | exact nf e₁ | cases e₁

set_option tactic.hygienic false in
theorem for_ok (W : Facts B) (S : Snd B R n) (hb : Bnd A n) (N : EnvOk cx env) {tg e : Expr} {body : List Stmt} {pos : Pos} (I : Inv B g σ s.heap) (F : FrameOk B env g σ s.heap Γ)
    (e1 : srcE R cx Γ σ e = some (ts, σ₁)) (e2 : forL R cx tg body Γ σ₁ ts = some (fl, Γ', σ')) : wpAny (BM B) A (exec (.For tg e body [] pos) env) (PX B env g σ s fl Γ' σ') no s := by
  refine wpAny_For (wpAny_mono (srcE_ok (lo := s.heap.objs.size) W S hb N I F e1 (Nat.le_refl _)) (fun v s₁ q => wpAny_mono q (fun it s₂ ⟨g₂, x₂, I₂, r₂, S₂⟩ => ?_) fun _ _ y => y) fun _ _ y => y) (src_notSet e1)
  refine codeAny_mono (forLoop_ok S hb N I₂ (F.ext x₂) F.below S₂ e2) fun r s₃ ⟨f, hr, g₃, x₃, I₃, F₃, hf, r₃⟩ => ?_
  subst hr
  refine ⟨g₃, ?_, I₃, F₃, hf, r₂.trans r₃⟩
  exact ((x₂.weaken (Y := fun a => XE env a ∨ s.heap.objs.size ≤ a) fun _ q => q.elim).trans I I₂ x₃).forget fun a q => q

theorem whileLoop_ok (S : Snd B R n) (hb : Bnd A n) (N : EnvOk cx env) {c : Expr} {body : List Stmt} (I : Inv B g σ s.heap) (F : FrameOk B env g σ s.heap Γ) {k : Nat}
    (e : whileL R cx c body k Γ σ = some (fl, Γ', σ')) :
    codeAny (BM B) A (.whileLoop c body [] env) (fun r s' => ∃ f, r = .ok f ∧ PX B env g σ s fl Γ' σ' f s') s := by
  refine codeAny_gen fun RR hR => ?_
  obtain ⟨J, hJ⟩ : ∃ J : Nat → Shared → Prop, ∀ k s₁, J k s₁ ↔ WhJ B R cx env g σ s c body fl Γ' σ' k s₁ := ⟨_, fun _ _ => Iff.rfl⟩
  refine codeAny_whileLoop J ?_ k ((hJ _ _).mpr ⟨Γ, σ, g, Ext.refl, I, F, SameRest.refl, e⟩)
  intro k s₁ hj
  obtain ⟨Γ₁, σ₁, g₁, x₁, I₁, F₁, r₁, e₁⟩ := (hJ _ _).mp hj
  clear hj
  cases k with
  | zero => unfold whileL at e₁; first | exact nn e₁ | exact nf e₁ | first | exact nn e₁ | exact nf e₁ | cases e₁
  | succ k =>
    unfold whileL at e₁
    split at e₁
    · rename_i σ₂ e₂
      first | exact nn e₁ | exact nf e₁ | first | exact nn e₁ | exact nf e₁ | cases e₁
      refine wpAny_mono (S.b _ _ _ _ _ _ e₂ A env g₁ s₁ hb N I₁ F₁) (fun b s₂ ⟨g₂, x₂, I₂, hb', r₂⟩ => ?_) fun _ _ y => y.elim
      subst hb'
      exact wpAny_execs_nil (hR _ _ ⟨_, rfl, g₂, x₁.trans I I₁ (x₂.weaken fun _ q => q.elim), I₂, F₁.ext x₂, rfl, r₁.trans r₂⟩)
    · rename_i σ₂ e₂
      refine wpAny_mono (S.b _ _ _ _ _ _ e₂ A env g₁ s₁ hb N I₁ F₁) (fun b s₂ ⟨g₂, x₂, I₂, hb', r₂⟩ => ?_) fun _ _ y => y.elim
      subst hb'
      have x12 := x₁.trans I I₁ (x₂.weaken (Y := XE env) fun _ q => q.elim)
      split at e₁
      · rename_i Γ₃ σ₃ e₃
        refine wpAny_mono (S.x _ _ _ _ _ _ _ e₃ A env g₂ s₂ hb N I₂ (F₁.ext x₂)) (fun f s₄ ⟨g₄, x₄, I₄, F₄, hf, r₄⟩ => ?_) fun _ _ y => y.elim
        rw [show f = .next from hf]
        exact ⟨k, Nat.lt_succ_self _, (hJ _ _).mpr ⟨Γ₃, σ₃, g₄, x12.trans I I₂ x₄, I₄, F₄, (r₁.trans r₂).trans r₄, e₁⟩⟩
      · rename_i w Γ₃ σ₃ e₃
        first | exact nn e₁ | exact nf e₁ | first | exact nn e₁ | exact nf e₁ | cases e₁
        refine wpAny_mono (S.x _ _ _ _ _ _ _ e₃ A env g₂ s₂ hb N I₂ (F₁.ext x₂)) (fun f s₄ ⟨g₄, x₄, I₄, F₄, hf, r₄⟩ => ?_) fun _ _ y => y.elim
        obtain ⟨u, rfl, au⟩ := hf
        exact hR _ _ ⟨_, rfl, g₄, x12.trans I I₂ x₄, I₄, F₄, ⟨u, rfl, au⟩, (r₁.trans r₂).trans r₄⟩
      · first | exact nn e₁ | exact nf e₁ | first | exact nn e₁ | exact nf e₁ | cases e₁
    · first | exact nn e₁ | exact nf e₁ | first | exact nn e₁ | exact nf e₁ | cases e₁
set_option tactic.hygienic false in
theorem while_ok (S : Snd B R n) (hb : Bnd A n) (N : EnvOk cx env) {c : Expr} {body : List Stmt} {pos : Pos} (I : Inv B g σ s.heap) (F : FrameOk B env g σ s.heap Γ) {k : Nat}
    (e : whileL R cx c body k Γ σ = some (fl, Γ', σ')) : wpAny (BM B) A (exec (.While c body [] pos) env) (PX B env g σ s fl Γ' σ') no s := by
  refine wpAny_While (codeAny_mono (whileLoop_ok S hb N I F e) fun r s₁ ⟨f, hr, q⟩ => ?_)
  subst hr
  exact q
end
end Mine
end
section
set_option maxRecDepth 100000
set_option autoImplicit false
namespace Mine
open PySem PySem.W PyProof.Rows

section
variable {B : Base} {R : Rec} {n : Nat} {g g' : Gh} {σ σ' σ₁ σ₂ : Sg} {A : Around} {s s₁ s₂ : Shared} {env : Env} {cx : Cx} {Γ Γ' : Ga} {lo hi : Nat} {ts : List T} {it : Value} {h h' : Heap} {fl : Fl}

set_option tactic.hygienic false in
theorem codeAny_compLoop_any {elt target iter : Expr} {ifs : List Expr} {scope : Scope} {pos : Pos} {it acc : Value} {RR : Result → Shared → Prop} (I : Nat → Shared → Prop)
    (turn : ∀ n s, I n s → wpAny (BM B) A (pyNext it) (fun r s₁ => match r with
      | none => RR (.ok .next) s₁
      | some v => wpAny (BM B) A (letOwnedTupleGo target it v) (fun _ s₀ => wpAny (BM B) A (assign target env v) (fun _ s₂ =>
          wpAny (BM B) A (forIn ifs true fun c r => if r = true then do let ok ← isTrue c env (eval c env); pure (ForInStep.yield ok) else pure (ForInStep.yield r)) (fun ok s₃ =>
            if ok = true then wpAny (BM B) A (eval elt env) (fun x s₄ => wpAny (BM B) A (call (.builtin "list.append") [acc, x]) (fun _ s₅ => ∃ m, m < n ∧ I m s₅) no s₄) no s₃
            else ∃ m, m < n ∧ I m s₃) no s₂) no s₀) no s₁) no s)
    (n : Nat) (h : I n s) : codeAny (BM B) A (.compLoop (.ListComp elt [⟨target, iter, ifs, 0⟩] scope pos) 0 it acc env) RR s := by
  refine codeAny_loop rfl I (fun n s hI => ?_) n h
  show wpAny _ A ((compTurn (.ListComp elt [⟨target, iter, ifs, 0⟩] scope pos) 0 it acc env).onRaise (fun x => do noteFrame x env; theTreesLotGoes x)) _ _ s
  refine wpAny_noted ?_
  rw [compTurn_list]
  refine wpAny_bind (wpAny_standAt (wpAny_bind (wpAny_mono (turn n s hI) (fun r s₁ h₁ => ?_) fun _ _ h' => h'.elim)))
  induction r using Option.casesOn with
  | none => exact wpAny_pure h₁
  | some v =>
    refine wpAny_bind (wpAny_mono h₁ (fun _ s₀ h₀' => ?_) fun _ _ h' => h'.elim)
    refine wpAny_bind (wpAny_mono h₀' (fun _ s₂ h₂ => ?_) fun _ _ h' => h'.elim)
    refine wpAny_bind (wpAny_mono h₂ (fun okb s₃ h₃ => ?_) fun _ _ h' => h'.elim)
    induction okb using Bool.casesOn with
    | false => exact wpAny_pure ⟨rfl, h₃⟩
    | true => exact wpAny_bind (wpAny_bind (wpAny_mono h₃ (fun x s₄ h₄ => wpAny_bind (wpAny_mono h₄ (fun _ s₅ h₅ => wpAny_pure (wpAny_pure ⟨rfl, h₅⟩)) fun _ _ h' => h'.elim)) fun _ _ h' => h'.elim))

theorem tests_off {Q : Bool → Shared → Prop} : ∀ (ifs : List Expr), Q false s →
    wpAny (BM B) A (forIn ifs false fun c r => if r = true then do let ok ← isTrue c env (eval c env); pure (ForInStep.yield ok) else pure (ForInStep.yield r)) Q no s
  | [], h => wpAny_pure h
  | c :: ifs, h => by
    rw [List.forIn_cons]
    exact wpAny_bind (wpAny_pure (tests_off ifs h))
theorem tests_ok (S : Snd B R n) (hb : Bnd A n) (N : EnvOk cx env) : ∀ (ifs : List Expr) {g : Gh} {σ : Sg} {s : Shared} {b : Bool} {σ' : Sg} (_ : Inv B g σ s.heap) (_ : FrameOk B env g σ s.heap Γ) (_ : andsB R cx Γ σ ifs = some (b, σ')),
    wpAny (BM B) A (forIn ifs true fun c r => if r = true then do let ok ← isTrue c env (eval c env); pure (ForInStep.yield ok) else pure (ForInStep.yield r)) (PB B g σ s b σ') no s
  | [], g, σ, s, b, σ', I, F, e => by
    first | exact nn e | exact nf e | first | exact nn e | exact nf e | cases e
    exact wpAny_pure ⟨g, Ext.refl, I, rfl, SameRest.refl⟩
  | c :: ifs, g, σ, s, b, σ', I, F, e => by
    unfold andsB at e
    rw [List.forIn_cons, if_pos rfl]
    split at e
    · rename_i σ₁ e1
      refine wpAny_bind (wpAny_bind (wpAny_mono (S.b _ _ _ _ _ _ e1 A env g s hb N I F) (fun v s₁ ⟨g₁, x₁, I₁, hv, r₁⟩ => ?_) fun _ _ y => y))
      subst hv
      exact wpAny_pure (PB.into I x₁ I₁ r₁ (tests_ok S hb N ifs I₁ (F.ext x₁) e))
    · rename_i σ₁ e1
      first | exact nn e | exact nf e | first | exact nn e | exact nf e | cases e
      refine wpAny_bind (wpAny_bind (wpAny_mono (S.b _ _ _ _ _ _ e1 A env g s hb N I F) (fun v s₁ ⟨g₁, x₁, I₁, hv, r₁⟩ => ?_) fun _ _ y => y))
      subst hv
      exact wpAny_pure (tests_off ifs ⟨g₁, x₁, I₁, rfl, r₁⟩)
    · first | exact nn e | exact nf e | first | exact nn e | exact nf e | cases e

/-! what a comprehension closes over -/
noncomputable def closOf (env : Env) : List (Str × NameKind) → List (Str × Addr) → List (Str × Addr)
  | [], acc => acc
  | (x, k) :: r, acc => if k == .free then (match env.cells.lookup x with
      | some c => closOf env r ((x, c) :: acc)
      | none => closOf env r acc) else closOf env r acc
theorem closOf_mem : ∀ (l : List (Str × NameKind)) (acc : List (Str × Addr)) {x : Str} {c : Addr}, (closOf env l acc).lookup x = some c → acc.lookup x = some c ∨ env.cells.lookup x = some c
  | [], acc, x, c, h => .inl h
  | (y, k) :: r, acc, x, c, h => by
    unfold closOf at h
    split at h
    · split at h
      · rename_i d hd
        rcases closOf_mem r _ h with q | q
        · rw [List.lookup_cons] at q
          split at q
          · rename_i w
            first | exact nn q | exact nf q | first | exact nn q | exact nf q | cases q
            have := beq_iff_eq.mp w
            subst this
            exact .inr hd
          · exact .inl q
        · exact .inr q
      · exact closOf_mem r _ h
    · exact closOf_mem r _ h
theorem closOf_has : ∀ (l : List (Str × NameKind)) (acc : List (Str × Addr)) (x : Str), (acc.lookup x).isSome = true ∨ ((x, NameKind.free) ∈ l ∧ (env.cells.lookup x).isSome = true) → ((closOf env l acc).lookup x).isSome = true
  | [], acc, x, h => by
    rcases h with h | ⟨h, _⟩
    · exact h
    · first | exact nn h | exact nf h | first | exact nn h | exact nf h | cases h
  | (y, k) :: r, acc, x, h => by
    unfold closOf
    rcases h with h | ⟨h, h2⟩
    · split
      · split
        · refine closOf_has r _ x (.inl ?_)
          rw [List.lookup_cons]
          split
          · rfl
          · exact h
        · exact closOf_has r _ x (.inl h)
      · exact closOf_has r _ x (.inl h)
    · rcases List.mem_cons.mp h with h | h
      · first | exact nn h | exact nf h | first | exact nn h | exact nf h | cases h
        rw [if_pos (by rfl)]
        split
        · refine closOf_has r _ _ (.inl ?_)
          rw [List.lookup_cons, beq_self_eq_true]; rfl
        · rename_i q; rw [q] at h2; first | exact nn h2 | exact nf h2 | first | exact nn h2 | exact nf h2 | cases h2
      · split
        · split
          · exact closOf_has r _ x (.inr ⟨h, h2⟩)
          · exact closOf_has r _ x (.inr ⟨h, h2⟩)
        · exact closOf_has r _ x (.inr ⟨h, h2⟩)
set_option tactic.hygienic false in
theorem closureFor_eq {scope : Scope} (hf : ∀ p ∈ scope.names, p.2 = .free → ∃ c, env.cells.lookup p.1 = some c) : closureFor scope env = pure (closOf env scope.names []) := by
  unfold closureFor
  have : ∀ (l : List (Str × NameKind)) (acc : List (Str × Addr)), (∀ p ∈ l, p.2 = .free → ∃ c, env.cells.lookup p.1 = some c) →
      (forIn l acc (fun (p : Str × NameKind) (cs : List (Str × Addr)) => if (p.2 == .free) = true then do let a ← cellOf env p.1; pure (ForInStep.yield ((p.1, a) :: cs)) else pure (ForInStep.yield cs)) : Sem (List (Str × Addr))) = pure (closOf env l acc) := by
    intro l
    induction l with
    | nil => intro acc _; rfl
    | cons p l ih =>
      intro acc hp
      obtain ⟨x, k⟩ := p
      rw [List.forIn_cons]
      unfold closOf
      by_cases q : (k == .free) = true
      · rw [if_pos q, if_pos q]
        obtain ⟨c, hc⟩ := hp (x, k) (.head _) (by simpa using q)
        unfold cellOf
        rw [show env.cells.lookup (x, k).1 = some c from hc]
        exact ih _ fun p hp' => hp p (.tail _ hp')
      · rw [if_neg q, if_neg q]
        exact ih _ fun p hp' => hp p (.tail _ hp')
  have h2 := this scope.names [] hf
  exact (congrArg (· >>= fun cs => pure cs) h2).trans rfl

theorem scOk_of {names : List (Str × NameKind)} : ∀ {l : List (Str × NameKind)}, scOk cx names l = true → ∀ p ∈ l, (p.2 = .local → lkS p.1 names = some .local) ∧ (p.2 = .free → lkS p.1 cx.names = some .cell ∨ lkS p.1 cx.names = some .free) ∧ p.2 ≠ .cell
  | [], _, p, hp => by cases hp
  | (x, k) :: r, h, p, hp => by
    unfold scOk at h
    have h := Bool.and_eq_true_iff.mp h
    rcases List.mem_cons.mp hp with rfl | hp
    · have h1 := h.1
      refine ⟨fun e => ?_, fun e => ?_, fun e => ?_⟩
      · dsimp only at e; subst e
        dsimp only at h1
        revert h1
        unfold isLocal
        split
        · rename_i q; intro _; exact q
        · intro w; cases w
      · dsimp only at e; subst e
        dsimp only at h1
        revert h1
        unfold isCell
        split
        · rename_i q; intro _; exact .inl q
        · rename_i q; intro _; exact .inr q
        · intro w; cases w
      · dsimp only at e; subst e; first | exact nn h1 | exact nf h1 | first | exact nn h1 | exact nf h1 | cases h1
    · exact scOk_of h.2 p hp
theorem lkS_free {names : List (Str × NameKind)} {x : Str} {a : AV} : ∀ {Γ : Ga}, lkS x (freeOf names Γ) = some a → lkS x names = some .free ∧ lkS x Γ = some a
  | [], h => by cases h
  | (y, v) :: r, h => by
    unfold freeOf at h
    split at h
    · rename_i q
      have cons : ∀ (r : Ga), lkS x ((y, v) :: r) = match sEq x y with | true => some v | false => lkS x r := fun _ => rfl
      rw [cons] at h ⊢
      induction w : sEq x y using Bool.casesOn with
      | true => rw [w] at h; rw [(sEq_iff x y).mp w]; exact ⟨q, h⟩
      | false => rw [w] at h; exact lkS_free h
    · rename_i q
      obtain ⟨h1, h2⟩ := lkS_free h
      refine ⟨h1, ?_⟩
      unfold lkS
      induction w : sEq x y using Bool.casesOn with
      | true => rw [(sEq_iff x y).mp w] at h1; exact absurd h1 q
      | false => exact h2
set_option tactic.hygienic false in
theorem relabel_lookup {env : Env} (hk : env.scope.kind = .function) {x : Str} : ∀ {names : List (Str × NameKind)} {k : NameKind}, (∀ p ∈ names, p.2 = .free → env.kindOf p.1 = some .cell) → names.lookup x = some k →
    (names.map fun (n, k) => if (k == .free && env.scope.kind == .function && env.kindOf n == some .cell) then (n, NameKind.cell) else (n, k)).lookup x = some (kindNow k)
  | [], _, _, h => by cases h
  | (y, k') :: r, k, hf, h => by
    rw [List.map_cons]
    have step : (if (k' == .free && env.scope.kind == .function && env.kindOf y == some .cell) = true then (y, NameKind.cell) else (y, k')) = (y, kindNow k') := by
      by_cases q : k' = .free
      · subst q
        rw [hf (y, .free) (.head _) rfl, hk]
        rfl
      · have : (k' == NameKind.free) = false := by simpa using q
        rw [this]
        cases k' <;> first | rfl | exact absurd rfl q
    show List.lookup x ((if (k' == .free && env.scope.kind == .function && env.kindOf y == some .cell) = true then (y, NameKind.cell) else (y, k')) :: _) = _
    rw [step, List.lookup_cons]
    rw [List.lookup_cons] at h
    induction w : x == y using Bool.casesOn with
    | true => rw [w] at h; cases h; rfl
    | false => rw [w] at h; exact relabel_lookup hk (fun p hp => hf p (.tail _ hp)) h

theorem relabel_isSome {env : Env} {x : Str} : ∀ {names : List (Str × NameKind)} {k : NameKind},
    (names.map fun (n, k) => if (k == .free && env.scope.kind == .function && env.kindOf n == some .cell) then (n, NameKind.cell) else (n, k)).lookup x = some k → ∃ k', names.lookup x = some k'
  | [], _, h => by cases h
  | (y, k') :: r, k, h => by
    rw [List.map_cons] at h
    rw [List.lookup_cons]
    induction w : x == y using Bool.casesOn with
    | true => exact ⟨_, rfl⟩
    | false =>
      have h : List.lookup x ((if (k' == .free && env.scope.kind == .function && env.kindOf y == some .cell) = true then (y, NameKind.cell) else (y, k')) :: _) = _ := h
      have : ∀ q : Str × NameKind, q.1 = y → ∀ l, List.lookup x (q :: l) = List.lookup x l := fun q e l => by
        obtain ⟨a, b⟩ := q
        dsimp only at e; subst e
        rw [List.lookup_cons, w]
      rw [this _ (by split <;> rfl)] at h
      exact relabel_isSome h

section
variable {sc : Scope} {C : Addr}
theorem comp_free (N : EnvOk cx env) (hs : scOk cx sc.names sc.names = true) : ∀ p ∈ sc.names, p.2 = .free → env.kindOf p.1 = some .cell := fun p hp hf => by
  rcases (scOk_of hs p hp).2.1 hf with q | q <;> exact N.names _ _ q
theorem comp_clos (N : EnvOk cx env) (hs : scOk cx sc.names sc.names = true) : closureFor sc env = pure (closOf env sc.names []) :=
  closureFor_eq fun p hp hf => N.cells _ (comp_free N hs p hp hf)
set_option tactic.hygienic false in
theorem comp_env (N : EnvOk cx env) (hk : sc.kind = .function) (hs : scOk cx sc.names sc.names = true) : EnvOk ⟨sc.names⟩ (compEnvC sc (closOf env sc.names []) C env) where
  kind := hk
  globals := N.globals
  builtins := N.builtins
  names x k e := by
    rw [lkS_eq] at e
    exact relabel_lookup N.kind (comp_free N hs) e
  cells x e := by
    obtain ⟨k', hk'⟩ := relabel_isSome (show List.lookup x _ = some _ from e)
    have e' := (relabel_lookup N.kind (comp_free N hs) hk').symm.trans e
    have hm := mem_of_lookup hk'
    have : k' = .free := by
      cases k' <;> first | rfl | (cases e'; done) | exact absurd rfl (scOk_of hs _ hm).2.2
    subst this
    obtain ⟨c, hc⟩ := N.cells x (comp_free N hs _ hm rfl)
    exact Option.isSome_iff_exists.mp (closOf_has sc.names [] x (.inr ⟨hm, by rw [hc]; rfl⟩))
set_option tactic.hygienic false in
theorem comp_cells {x : Str} {c : Addr} (e : (compEnvC sc (closOf env sc.names []) C env).cells.lookup x = some c) : env.cells.lookup x = some c := by
  rcases closOf_mem sc.names [] e with q | q
  · first | exact nn q | exact nf q | first | exact nn q | exact nf q | cases q
  · exact q
set_option tactic.hygienic false in
theorem comp_frame (N : EnvOk cx env) (hk : sc.kind = .function) (hs : scOk cx sc.names sc.names = true) (F : FrameOk B env g σ h Γ) {m : Str → Option Value} (hn : h.Ns C m) (fC : Free g σ h C) (hC : ∀ x c, env.cells.lookup x = some c → c ≠ C) :
    FrameOk B (compEnvC sc (closOf env sc.names []) C env) g σ h (freeOf sc.names Γ) where
  ns := ⟨m, hn, fun x a e k => by
    obtain ⟨e1, e2⟩ := lkS_free e
    have := (comp_env (C := C) N hk hs).names x _ e1
    rw [this] at k; cases k⟩
  cell x a e k := by
    obtain ⟨e1, e2⟩ := lkS_free e
    rw [lkS_eq] at e1
    obtain ⟨c, v, e3, e4, e5⟩ := F.cell x a e2 (comp_free N hs _ (mem_of_lookup e1) rfl)
    obtain ⟨c', hc'⟩ := Option.isSome_iff_exists.mp (closOf_has (env := env) sc.names [] x (.inr ⟨mem_of_lookup e1, by rw [e3]; rfl⟩))
    have := comp_cells (C := C) hc'
    rw [e3] at this; cases this
    exact ⟨c, v, hc', e4, e5⟩
  has x c e := F.has x c (comp_cells e)
  lz := fC.nz
  lo := fC.no
  cz x c e := ⟨(F.cz x c (comp_cells e)).1, (F.cz x c (comp_cells e)).2.1, hC x c (comp_cells e)⟩
  cinj x y c e1 e2 := F.cinj x y c (comp_cells e1) (comp_cells e2)
end
end
end Mine
end
section
set_option maxRecDepth 100000
set_option autoImplicit false
namespace Mine
open PySem PySem.W PyProof.Rows

section
variable {B : Base} {R : Rec} {n : Nat} {g g' : Gh} {σ σ' σ₁ σ₂ : Sg} {A : Around} {s s₁ s₂ : Shared} {env : Env} {cx : Cx} {Γ Γ' : Ga} {lo hi : Nat} {ts : List T} {it : Value} {h h' : Heap} {fl : Fl} {C D : Addr}

/-- a comprehension under way: its frame, its source, its list -/
structure CI (B : Base) (A : Around) (cenv : Env) (lo hi : Nat) (D : Addr) (g : Gh) (σ : Sg) (h : Heap) (Γ : Ga) (us : List T) (it : Value) (done : List T) : Prop where
  I : Inv B g σ h
  F : FrameOk B cenv g σ h Γ
  src : Src B A lo hi g σ h us it
  fD : Free g σ h D
  acc : ∃ vs, h.PlainList D (List.toArray vs) ∧ RepL B g.Z h done vs

/-- what stays the same all along -/
structure CF (cx : Cx) (cenv : Env) (lo hi : Nat) (D : Addr) : Prop where
  N : EnvOk cx cenv
  nocell : ∀ x, lkS x cx.names ≠ some .cell
  le : lo ≤ hi
  hC : hi ≤ cenv.locals
  hD : hi ≤ D
  ne : D ≠ cenv.locals
  cells : ∀ x c, cenv.cells.lookup x = some c → c < lo

theorem acc_ext {X : Addr → Prop} {done : List T} (fD : Free g σ h D) (x : Ext X g σ h g' σ' h') (hX : ¬ X D) (a : ∃ vs, h.PlainList D (List.toArray vs) ∧ RepL B g.Z h done vs) : ∃ vs, h'.PlainList D (List.toArray vs) ∧ RepL B g'.Z h' done vs :=
  let ⟨vs, p, r⟩ := a
  ⟨vs, p.at fun o e => x.keep D o e fD.no hX, x.repL r⟩
theorem CI.ext {cenv : Env} {us done : List T} (c : CI B A cenv lo hi D g σ h Γ us it done) (x : Ext (fun _ => False) g σ h g' σ' h') (I' : Inv B g' σ' h') : CI B A cenv lo hi D g' σ' h' Γ us it done :=
  ⟨I', c.F.ext x, c.src.ext x fun _ q => q.elim, c.fD.ext x, acc_ext c.fD x id c.acc⟩

inductive CompP (B : Base) (cenv : Env) (lo : Nat) (D : Addr) (g : Gh) (σ : Sg) (s : Shared) (σ' : Sg) (all : List T) (r : Result) (s' : Shared) : Prop
  | mk (hr : r = .ok .next) (g' : Gh) (Γ' : Ga) (x : Ext (fun a => lo ≤ a) g σ s.heap g' σ' s'.heap) (q : SameRest s s') (i : Inv B g' σ' s'.heap) (fr : FrameOk B cenv g' σ' s'.heap Γ') (fd : Free g' σ' s'.heap D)
    (z : ∃ vs, s'.heap.PlainList D (List.toArray vs) ∧ RepL B g'.Z s'.heap all vs) : CompP B cenv lo D g σ s σ' all r s'
/-- how a comprehension's loop stands -/
inductive CompJ (B : Base) (A : Around) (R : Rec) (cx : Cx) (cenv : Env) (lo hi : Nat) (D : Addr) (g : Gh) (σ : Sg) (s : Shared) (tg elt : Expr) (ifs : List Expr) (it : Value) (σ' : Sg) (all : List T) (k : Nat) (s₁ : Shared) : Prop
  | mk (us : List T) (Γ₁ : Ga) (σ₁ : Sg) (g₁ : Gh) (done₁ rest : List T) (hk : k = us.length) (x₁ : Ext (fun a => lo ≤ a) g σ s.heap g₁ σ₁ s₁.heap) (r₁ : SameRest s s₁) (c₁ : CI B A cenv lo hi D g₁ σ₁ s₁.heap Γ₁ us it done₁) (hsz : done₁.length + us.length ≤ 1000)
    (e₁ : compL R cx tg elt ifs Γ₁ σ₁ us = some (rest, σ')) (hd : done₁ ++ rest = all) : CompJ B A R cx cenv lo hi D g σ s tg elt ifs it σ' all k s₁
theorem compLoop_ok (S : Snd B R n) (hb : Bnd A n) {cenv : Env} (K : CF cx cenv lo hi D) {tg elt iter : Expr} {ifs : List Expr} {scope : Scope} {pos : Pos} {done ts' : List T} (c : CI B A cenv lo hi D g σ s.heap Γ ts it done)
    (hsz : done.length + ts.length ≤ 1000) (e : compL R cx tg elt ifs Γ σ ts = some (ts', σ')) :
    codeAny (BM B) A (.compLoop (.ListComp elt [⟨tg, iter, ifs, 0⟩] scope pos) 0 it (.ref D) cenv) (CompP B cenv lo D g σ s σ' (done ++ ts')) s := by
  refine codeAny_gen fun RR hR => ?_
  obtain ⟨J, hJ⟩ : ∃ J : Nat → Shared → Prop, ∀ k s₁, J k s₁ ↔ CompJ B A R cx cenv lo hi D g σ s tg elt ifs it σ' (done ++ ts') k s₁ := ⟨_, fun _ _ => Iff.rfl⟩
  refine codeAny_compLoop_any J ?_ ts.length ((hJ _ _).mpr ⟨ts, Γ, σ, g, done, ts', rfl, Ext.refl, SameRest.refl, c, hsz, e, rfl⟩)
  intro k s₁ hj
  obtain ⟨us, Γ₁, σ₁, g₁, done₁, rest, rfl, x₁, r₁, c₁, hsz₁, e₁, hd⟩ := (hJ _ _).mp hj
  clear hj
  have loC : lo ≤ cenv.locals := Nat.le_trans K.le K.hC
  have loD : lo ≤ D := Nat.le_trans K.le K.hD
  have srcF : ∀ {g₁ g₂ : Gh} {σ₁ σ₂ : Sg} {h₁ h₂ : Heap} {Γ₁ : Ga}, FrameOk B cenv g₁ σ₁ h₁ Γ₁ → Ext (fun a => lo ≤ a ∧ a < hi) g₁ σ₁ h₁ g₂ σ₂ h₂ → FrameOk B cenv g₂ σ₂ h₂ Γ₁ := fun F x =>
    F.extX x (fun q => absurd q.2 (Nat.not_lt_of_le K.hC)) fun y c e q => absurd (K.cells y c e) (Nat.not_lt_of_le q.1)
  induction us using List.casesOn with
  | nil =>
    unfold compL at e₁
    first | exact nn e₁ | exact nf e₁ | first | exact nn e₁ | exact nf e₁ | cases e₁
    refine wpAny_mono (c₁.src.done c₁.I) (fun r s₂ ⟨hr, I₂, x₂, r₂⟩ => ?_) fun _ _ y => y.elim
    subst hr
    refine hR _ _ ⟨rfl, g₁, Γ₁, x₁.trans c.I c₁.I (x₂.weaken fun _ q => q.1), r₁.trans r₂, I₂, srcF c₁.F x₂, c₁.fD.ext x₂, ?_⟩
    rw [← hd, List.append_nil]
    exact acc_ext c₁.fD x₂ (fun q => absurd q.2 (Nat.not_lt_of_le K.hD)) c₁.acc
  | cons t us =>
    have hsz₁ : done₁.length + (us.length + 1) ≤ 1000 := hsz₁
    unfold compL at e₁
    split at e₁
    · rename_i Γ₂ e₂
      refine wpAny_mono (c₁.src.next c₁.I) (fun r s₂ ⟨v, hr, rv, I₂, x₂, r₂, S₂⟩ => ?_) fun _ _ y => y.elim
      subst hr
      have F₂ := srcF c₁.F x₂
      have x12 := x₁.trans c.I c₁.I (x₂.weaken (Y := fun a => lo ≤ a) fun _ q => q.1)
      have acc₂ := acc_ext c₁.fD x₂ (fun q => absurd q.2 (Nat.not_lt_of_le K.hD)) c₁.acc
      refine S₂.go tg v ?_
      refine wpAny_mono (bindT_ok K.N hb.hd I₂ F₂ rv e₂) (fun _ s₃ ⟨x₃, I₃, F₃, r₃⟩ => ?_) fun _ _ y => y.elim
      have xc : ∀ a, XC cx cenv a → a = cenv.locals := fun a q => q.elim id fun ⟨x, q, _⟩ => absurd q (K.nocell x)
      have x₃ := x₃.weaken xc
      have c₃ : CI B A cenv lo hi D g₁ σ₁ s₃.heap Γ₂ us it done₁ := ⟨I₃, F₃, S₂.ext x₃ fun a q => .inr (q ▸ K.hC), (c₁.fD.ext x₂).ext x₃, acc_ext (c₁.fD.ext x₂) x₃ (fun q => K.ne q) acc₂⟩
      have x13 := x12.trans c.I I₂ (x₃.weaken (Y := fun a => lo ≤ a) fun _ q => q ▸ loC)
      split at e₁
      · rename_i σ₃ e₃
        refine wpAny_mono (tests_ok S hb K.N ifs I₃ F₃ e₃) (fun b s₄ ⟨g₄, x₄, I₄, hb', r₄⟩ => ?_) fun _ _ y => y.elim
        subst hb'
        rw [if_pos rfl]
        have c₄ := c₃.ext x₄ I₄
        have x14 := x13.trans c.I I₃ (x₄.weaken (Y := fun a => lo ≤ a) fun _ q => q.elim)
        split at e₁
        · rename_i a σ₅ e₅
          split at e₁
          · rename_i u σ₆ e₆
            split at e₁
            · rename_i rest' σ₇ e₇
              first | exact nn e₁ | exact nf e₁ | first | exact nn e₁ | exact nf e₁ | cases e₁
              refine goE (S.e _ _ _ _ _ _ e₅ A cenv g₄ s₄ hb K.N I₄ c₄.F) fun y s₅ g₅ x₅ I₅ r₅ av => ?_
              have c₅ := c₄.ext x₅ I₅
              obtain ⟨g₆, I₆, x₆, ru⟩ := frz_ok I₅ av e₆
              have c₆ := c₅.ext x₆ I₆
              have x16 := (x14.trans c.I I₄ (x₅.weaken (Y := fun a => lo ≤ a) fun _ q => q.elim)).trans c.I I₅ (x₆.weaken (Y := fun a => lo ≤ a) fun _ q => q.elim)
              obtain ⟨vs, p, q⟩ := c₆.acc
              have hl := q.length
              refine wpAny_list_append_plain p (fun h' p' hs => ?_) (show vs.toArray.size ≤ sizeLine from ?_)
              · obtain ⟨I₇, x₇⟩ := I₆.setFree c₆.fD.nz c₆.fD.no hs
                refine ⟨us.length, Nat.lt_succ_self _, (hJ _ _).mpr ⟨us, Γ₂, σ₆, g₆, done₁ ++ [u], rest', rfl, x16.trans c.I I₆ (x₇.weaken fun _ q => q ▸ loD), ((((r₁.trans r₂).trans r₃).trans r₄).trans r₅).trans ⟨rfl, rfl, rfl⟩, ⟨I₇, ?_, ?_, c₆.fD.ext x₇, vs ++ [y], ?_, (x₇.repL q).snoc (x₇.rep ru)⟩, ?_, e₇, ?_⟩⟩
                · exact c₆.F.extX x₇ (fun q => K.ne q.symm) fun z c e q => absurd (K.cells z c e) (Nat.not_lt_of_le (q ▸ loD))
                · exact c₆.src.ext x₇ fun a q => .inr (q ▸ K.hD)
                · have : (vs ++ [y]).toArray = vs.toArray.push y := by simp
                  rw [this]; exact p'
                · rw [List.length_append]; show done₁.length + 1 + us.length ≤ _; omega
                · rw [← hd]; simp
              · have : vs.toArray.size ≤ 1000 := by simp only [List.size_toArray]; omega
                exact line_ge (Nat.le_trans this (by decide))
            · first | exact nn e₁ | exact nf e₁ | first | exact nn e₁ | exact nf e₁ | cases e₁
          · first | exact nn e₁ | exact nf e₁ | first | exact nn e₁ | exact nf e₁ | cases e₁
        · first | exact nn e₁ | exact nf e₁ | first | exact nn e₁ | exact nf e₁ | cases e₁
      · rename_i σ₃ e₃
        refine wpAny_mono (tests_ok S hb K.N ifs I₃ F₃ e₃) (fun b s₄ ⟨g₄, x₄, I₄, hb', r₄⟩ => ?_) fun _ _ y => y.elim
        subst hb'
        rw [if_neg (by decide)]
        exact ⟨us.length, Nat.lt_succ_self _, (hJ _ _).mpr ⟨us, Γ₂, σ₃, g₄, done₁, rest, rfl, x13.trans c.I I₃ (x₄.weaken fun _ q => q.elim), ((r₁.trans r₂).trans r₃).trans r₄, c₃.ext x₄ I₄, by omega, e₁, hd⟩⟩
      · first | exact nn e₁ | exact nf e₁ | first | exact nn e₁ | exact nf e₁ | cases e₁
    · first | exact nn e₁ | exact nf e₁ | first | exact nn e₁ | exact nf e₁ | cases e₁

/-- how a comprehension stands at its end -/
structure CEnd (B : Base) (g : Gh) (σ : Sg) (s : Shared) (ts : List T) (σ' : Sg) (s' : Shared) (D C : Addr) (g' : Gh) : Prop where
  x : Ext (fun _ => False) g σ s.heap g' σ' s'.heap
  I : Inv B g' σ' s'.heap
  r : SameRest s s'
  fD : Free g' σ' s'.heap D
  fC : Free g' σ' s'.heap C
  ne : D ≠ C
  loD : s.heap.objs.size ≤ D
  loC : s.heap.objs.size ≤ C
  ns : ∃ m, s'.heap.Ns C m
  acc : ∃ vs, s'.heap.PlainList D (List.toArray vs) ∧ RepL B g'.Z s'.heap ts vs

set_option tactic.hygienic false in
theorem comp_core (W : Facts B) (S : Snd B R n) (hb : Bnd A n) (N : EnvOk cx env) (I : Inv B g σ s.heap) (F : FrameOk B env g σ s.heap Γ) {tg elt iter : Expr} {ifs : List Expr} {sc : Scope} {pos p₂ : Pos} {us : List T}
    (hk : sc.kind = .function) (hs : scOk cx sc.names sc.names = true) (e1 : srcE R cx Γ σ iter = some (us, σ₁)) (hsz : us.length ≤ 1000) (e2 : compL R ⟨sc.names⟩ tg elt ifs (freeOf sc.names Γ) σ₁ us = some (ts, σ'))
    {use : Option (Value → Sem Unit)} {Q : Value → Shared → Prop}
    (hQ : ∀ D C g' s', CEnd B g σ s ts σ' s' D C g' → compPost (BM B) A no use Q (.ref D) C (.ok .next) s') :
    wpAny (BM B) A (comprehension (.ListComp elt [⟨tg, iter, ifs, 0⟩] sc pos) sc env p₂ (newList []) false (eval iter env) use) Q no s := by
  have hn := scOk_of hs
  refine wpAny_comprehension_free rfl (src_notSet e1) (comp_clos N hs) hk (fun x hx hl => by rw [← lkS_eq]; exact (hn x hx).1 hl) ?_
  refine wpAny_mono (srcE_ok (lo := s.heap.objs.size) W S hb N I F e1 (Nat.le_refl _)) (fun v s₁ q => wpAny_mono q (fun it s₂ ⟨g₂, x₂, I₂, r₂, S₂⟩ => ?_) fun _ _ y => y) fun _ _ y => y
  have F₂ := F.ext x₂
  refine wpAny_newObj_type (wpAny_newFunctionEnv (fun x hx => (hn x hx).2.2) (by intro y hy; simp at hy) (fun h₁ hns₁ hsb₁ => ?_) hk)
  dsimp only at hns₁ hsb₁ ⊢
  generalize hH2 : s₂.heap.push { cls := .type "list", dict := none, data := .seq ([] : List Value).toArray } = H2 at hns₁ hsb₁ ⊢
  have hC : H2.objs.size = s₂.heap.objs.size + 1 := by rw [← hH2, Heap.size_push]
  have hDC : s₂.heap.objs.size ≠ H2.objs.size := by rw [hC]; exact Nat.ne_of_lt (Nat.lt_succ_self _)
  have below : ∀ b, b < s₂.heap.objs.size → b ≠ H2.objs.size := fun b hb => by rw [hC]; exact Nat.ne_of_lt (Nat.lt_succ_of_lt hb)
  have old : ∀ b o, s₂.heap.get? b = some o → h₁.get? b = some o := fun b o e => hsb₁.extBut b o (below b (Heap.lt_size e)) (Heap.get?_push_of_some _ (hH2 ▸ Heap.get?_push_of_some _ e))
  have hacc : h₁.PlainList s₂.heap.objs.size #[] := ⟨_, hsb₁.extBut _ _ hDC (Heap.get?_push_of_some _ (hH2 ▸ Heap.get?_push_size _ rfl))⟩
  have sz₁ : h₁.objs.size = s₂.heap.objs.size + 2 := by rw [hsb₁.1, Heap.size_push, hC]
  obtain ⟨I₃, x₃⟩ := I₂.grow0 (h' := h₁) old (by omega)
  have hC1 : s₂.heap.objs.size ≤ H2.objs.size := by omega
  have hC2 : H2.objs.size < h₁.objs.size := by omega
  have hD2 : s₂.heap.objs.size < h₁.objs.size := by omega
  have fD := I₂.free_new (h' := h₁) (Nat.le_refl _) hD2
  have fC := I₂.free_new (h' := h₁) (a := H2.objs.size) hC1 hC2
  have cl : ∀ x c, env.cells.lookup x = some c → c < s.heap.objs.size := fun x c e => F.below c (.inr ⟨x, e⟩)
  have N' := comp_env (C := H2.objs.size) N hk hs
  have hle := x₂.size
  have F₃ := comp_frame (C := H2.objs.size) N hk hs (F₂.ext x₃) hns₁ fC (fun x c e => Nat.ne_of_lt (Nat.lt_of_lt_of_le (cl x c e) (Nat.le_trans hle hC1)))
  have K : CF ⟨sc.names⟩ (compEnvC sc (closOf env sc.names []) H2.objs.size env) s.heap.objs.size s₂.heap.objs.size s₂.heap.objs.size := by
    refine ⟨N', fun x q => ?_, hle, hC1, Nat.le_refl _, hDC, fun x c e => cl x c (comp_cells e)⟩
    rw [lkS_eq] at q
    exact (hn _ (mem_of_lookup q)).2.2 rfl
  have c₃ : CI B A (compEnvC sc (closOf env sc.names []) H2.objs.size env) s.heap.objs.size s₂.heap.objs.size s₂.heap.objs.size g₂ σ₁ h₁ (freeOf sc.names Γ) us it [] :=
    ⟨I₃, F₃, S₂.ext x₃ (fun _ q => q.elim), fD, [], hacc, rfl⟩
  have loop : ∀ s₃ : Shared, s₃.heap = h₁ → SameRest s s₃ →
      codeAny (BM B) A (.compLoop (.ListComp elt [⟨tg, iter, ifs, 0⟩] sc pos) 0 it (.ref s₂.heap.objs.size) (compEnvC sc (closOf env sc.names []) H2.objs.size env))
        (compPost (BM B) A no use Q (.ref s₂.heap.objs.size) H2.objs.size) s₃ := by
    rintro s₃ rfl r₃
    refine codeAny_mono (compLoop_ok S hb K c₃ (by simpa using hsz) e2) fun r s₄ ⟨hr, g₄, Γ₄, x₄, r₄, I₄, F₄, fD₄, acc₄⟩ => ?_
    subst hr
    have xx := ((x₂.trans I I₂ x₃).weaken (Y := fun a => s.heap.objs.size ≤ a) fun _ q => q.elim).trans I I₃ x₄
    obtain ⟨m, hm, _⟩ := F₄.ns
    exact hQ _ _ g₄ s₄ ⟨xx.forget fun a q => .inr q, I₄, r₃.trans r₄, fD₄, ⟨F₄.below _ (.inl rfl), F₄.lz, F₄.lo⟩, hDC, hle, Nat.le_trans hle hC1, ⟨m, hm⟩, by simpa using acc₄⟩
  have r₃ : SameRest s ({ s₂ with heap := h₁, toks := s₂.toks + ([] : List (Str × Value)).length } : Shared) := r₂.trans ⟨rfl, rfl, rfl⟩
  exact codeAny_compStart_list (loop _ rfl r₃) (Src.self (c₃.src) (loop _ rfl r₃))

set_option tactic.hygienic false in
theorem listComp_ok (W : Facts B) (S : Snd B R n) (hb : Bnd A n) (N : EnvOk cx env) (I : Inv B g σ s.heap) (F : FrameOk B env g σ s.heap Γ) {tg elt iter : Expr} {ifs : List Expr} {sc : Scope} {pos : Pos} {us : List T}
    (hk : sc.kind = .function) (hs : scOk cx sc.names sc.names = true) (e1 : srcE R cx Γ σ iter = some (us, σ₁)) (hsz : us.length ≤ 1000) (e2 : compL R ⟨sc.names⟩ tg elt ifs (freeOf sc.names Γ) σ₁ us = some (ts, σ')) :
    wpAny (BM B) A (eval (.ListComp elt [⟨tg, iter, ifs, 0⟩] sc pos) env) (PE B g σ s (.own σ'.length) (σ' ++ [.list ts])) no s := by
  rw [eval_ListComp]
  refine comp_core (use := none) W S hb N I F hk hs e1 hsz e2 fun D C g' s' c => ?_
  obtain ⟨m, hm⟩ := c.ns
  refine ⟨m, hm, fun h' hs' => ?_⟩
  obtain ⟨I', x'⟩ := c.I.setFree c.fC.nz c.fC.no hs'
  have x'' := ((c.x.weaken (Y := (· = C)) fun _ q => q.elim).trans I c.I x').forget (Y := fun _ => False) fun a q => .inr (q ▸ c.loC)
  obtain ⟨vs, p, r⟩ := acc_ext c.fD x' (fun q => c.ne q) c.acc
  obtain ⟨g'', I'', x3, er, ez⟩ := I.adopt x'' I' c.loD c.loD (c.fD.ext x') (c.fD.ext x') (.list ts) ⟨vs, by dsimp only; rw [if_pos rfl]; exact p, r⟩
  exact ⟨g'', x3, I'', ⟨by rw [List.length_append]; simp, by rw [er]⟩, c.r.trans ⟨rfl, rfl, rfl⟩⟩
end
end Mine
end
section
set_option maxRecDepth 100000
set_option autoImplicit false
namespace Mine
open PySem PySem.W PyProof.Rows

section
variable {B : Base} {R : Rec} {n : Nat} {g g' : Gh} {σ σ' σ₁ σ₂ : Sg} {A : Around} {s s₁ s₂ : Shared} {env : Env} {cx : Cx} {Γ Γ' : Ga} {lo hi : Nat} {ts : List T} {it : Value} {h h' : Heap} {fl : Fl} {C D : Addr}

theorem zk_of (I : Inv B g σ h) {i : Nat} {b : Addr} (hb : OwnA g σ i b) (hs : Heap.SameBut b h h') : ∀ a o, g.Z a → h.get? a = some o → h'.get? a = some o :=
  fun a o z e => (hs.2 a (fun w => I.nz i b hb (w ▸ z))).trans e
set_option tactic.hygienic false in
theorem get_set {i : Nat} {o o' : OObj} (q : σ[i]? = some o) : (σ.set i o')[i]? = some o' := by
  rw [List.getElem?_set, if_pos rfl, if_pos (lt_of_some q)]
set_option tactic.hygienic false in
theorem Inv.setList (I : Inv B g σ h) {i : Nat} {us : List T} {ws : List Value} (q : σ[i]? = some (.list ts)) (hs : Heap.SameBut (g.r i) h h') (p : h'.PlainList (g.r i) (List.toArray ws)) (r : RepL B g.Z h us ws) :
    Inv B g (σ.set i (.list us)) h' ∧ Ext (fun _ => False) g σ h g (σ.set i (.list us)) h' := by
  refine I.setOwn q (own_list q) hs (fun a x => ?_) ⟨ws, p, RepL.mono (fun _ z => z) (zk_of I (own_list q) hs) _ _ r⟩
  unfold OwnA at x ⊢
  rw [get_set q] at x
  rw [q]; exact x
set_option tactic.hygienic false in
theorem Inv.setDict (I : Inv B g σ h) {i : Nat} {ks ks' : List Key} {us : List T} {ws : List Value} (q : σ[i]? = some (.dict ks ts)) (hs : Heap.SameBut (g.r i) h h') (p : DictIs B h' (g.r i) ks' ws) (r : RepL B g.Z h us ws) :
    Inv B g (σ.set i (.dict ks' us)) h' ∧ Ext (fun _ => False) g σ h g (σ.set i (.dict ks' us)) h' := by
  refine I.setOwn q (own_dict q) hs (fun a x => ?_) ⟨ws, p, RepL.mono (fun _ z => z) (zk_of I (own_dict q) hs) _ _ r⟩
  unfold OwnA at x ⊢
  rw [get_set q] at x
  rw [q]; exact x
set_option tactic.hygienic false in
theorem Inv.setInst (I : Inv B g σ h) {i : Nat} {c : CN} {ns ns' : List Str} {as as' : List AV} {ws : List Value} (q : σ[i]? = some (.inst c ns as)) (hs : Heap.SameBut (g.d i) h h') (p : InstIs h' (B.ca c) (g.r i) (g.d i) ns' ws) (r : AVals B g h σ as' ws) :
    Inv B g (σ.set i (.inst c ns' as')) h' ∧ Ext (fun _ => False) g σ h g (σ.set i (.inst c ns' as')) h' := by
  have zk := zk_of I (own_instd q) hs
  refine I.setOwn q (own_instd q) hs (fun a x => ?_) ⟨(I.obj i _ q).1, ws, p, r.mono (fun t v => Rep.mono (fun _ z => z) zk t v) (fun _ _ => rfl) (by rw [List.length_set]; exact Nat.le_refl _)⟩
  unfold OwnA at x ⊢
  rw [get_set q] at x
  rw [q]; exact x

set_option tactic.hygienic false in
theorem swap_no {e : Expr} (h : notSwap e = true) (t : Option Expr) (l : Nat) : swapsWith e t l env = pure false := by
  cases e <;> first | rfl | first | exact nn h | exact nf h | first | exact nn h | exact nf h | cases h
set_option tactic.hygienic false in
theorem swap_sub (e o i : Expr) (p : Pos) (l : Nat) : swapsWith e (some (.Subscript o i p)) l env = pure false := by cases e <;> rfl
set_option tactic.hygienic false in
theorem swap_attr (e o : Expr) (x : Str) (p : Pos) (l : Nat) : swapsWith e (some (.Attribute o x p)) l env = pure false := by cases e <;> rfl
theorem swap_name (elt : Expr) (gs : List Comprehension) (sc : Scope) (q : Pos) (x : Str) (p : Pos) (l : Nat) : ∃ b, swapsWith (.ListComp elt gs sc q) (some (.Name x p)) l env = pure b := ⟨_, rfl⟩

theorem PX.trans (I : Inv B g σ s.heap) (I₁ : Inv B g' σ₁ s₁.heap) (x : Ext (XE env) g σ s.heap g' σ₁ s₁.heap) (r : SameRest s s₁) {f : Flow} (y : PX B env g' σ₁ s₁ fl Γ' σ₂ f s₂) : PX B env g σ s fl Γ' σ₂ f s₂ :=
  let ⟨g₂, x₂, I₂, F₂, hf, r₂⟩ := y
  ⟨g₂, x.trans I I₁ x₂, I₂, F₂, hf, r.trans r₂⟩
theorem PX.bound (I : Inv B g σ s.heap) {s' : Shared} (x : E0 g σ s g' σ₁ s₁) (I₁ : Inv B g' σ₁ s₁.heap) (r : SameRest s s₁) (y : PBind B cx env g' σ₁ s₁ Γ' s') : PX B env g σ s .next Γ' σ₁ .next s' :=
  ⟨g', (x.weaken fun _ q => q.elim).trans I I₁ (y.1.weaken fun _ q => q.xe), y.2.1, y.2.2.1, rfl, r.trans y.2.2.2⟩

theorem compE_inv {elt tg iter : Expr} {ifs : List Expr} {sc : Scope} (e : compE R cx Γ σ elt tg iter ifs sc = some (ts, σ')) : ∃ us σ₁, sc.kind = .function ∧ scOk cx sc.names sc.names = true ∧ srcE R cx Γ σ iter = some (us, σ₁) ∧ us.length ≤ 1000 ∧
    compL R ⟨sc.names⟩ tg elt ifs (freeOf sc.names Γ) σ₁ us = some (ts, σ') := by
  unfold compE at e
  split at e
  · rename_i h
    have h := Bool.and_eq_true_iff.mp h
    split at e
    · rename_i us σ₁ e1
      split at e
      · rename_i h2
        refine ⟨us, σ₁, ?_, h.2, e1, Nat.le_of_ble_eq_true h2, e⟩
        have := h.1
        revert this
        unfold isFun
        split
        · intro _; assumption
        · intro w; cases w
      · first | exact nn e | exact nf e | first | exact nn e | exact nf e | cases e
    · first | exact nn e | exact nf e | first | exact nn e | exact nf e | cases e
  · first | exact nn e | exact nf e | first | exact nn e | exact nf e | cases e

set_option tactic.hygienic false in
theorem assignComp_ok (W : Facts B) (S : Snd B R n) (hb : Bnd A n) (N : EnvOk cx env) (I : Inv B g σ s.heap) (F : FrameOk B env g σ s.heap Γ) {tg elt iter : Expr} {ifs : List Expr} {sc : Scope} {pos px ps : Pos} {x : Str}
    (e : compE R cx Γ σ elt tg iter ifs sc = some (ts, σ')) (e2 : bindN cx x (.own σ'.length) Γ = some Γ') :
    wpAny (BM B) A (exec (.Assign [.Name x px] (.ListComp elt [⟨tg, iter, ifs, 0⟩] sc pos) ps) env) (PX B env g σ s .next Γ' (σ' ++ [.list ts])) no s := by
  obtain ⟨us, σ₁, hk, hs, h1, h2, h3⟩ := compE_inv e
  obtain ⟨b, hsw⟩ := swap_name (env := env) elt [⟨tg, iter, ifs, 0⟩] sc pos x px ps.line
  induction b using Bool.casesOn with
  | false =>
    refine wpAny_Assign_Name (goE (listComp_ok W S hb N I F hk hs h1 h2 h3) fun v s₁ g₁ x₁ I₁ r₁ av => ?_) hsw
    exact wpAny_mono (bindN_ok N I₁ (F.ext x₁) av e2) (fun _ s₂ y => PX.bound I x₁ I₁ r₁ y) fun _ _ y => y
  | true =>
    rw [exec_Assign_Name_used _ _ _ _ hsw]
    refine wpAny_bind (wpAny_standAt (wpAny_bind ?_))
    show wpAny _ A (do let _ ← comprehension (.ListComp elt [⟨tg, iter, ifs, 0⟩] sc pos) sc env _ (newList []) false (eval iter env) (some (assign (.Name x px) env))) _ _ s
    refine wpAny_bind (wpAny_mono (comp_core (use := some (assign (.Name x px) env)) (Q := fun _ s' => PX B env g σ s .next Γ' (σ' ++ [.list ts]) .next s') W S hb N I F hk hs h1 h2 h3 fun D C g' s' c => ?_) (fun _ s' hq => wpAny_pure (wpAny_pure hq)) fun _ _ y => y)
    obtain ⟨vs, p, r⟩ := c.acc
    obtain ⟨g₂, I₂, x₂, er, ez, eo⟩ := I.adopt c.x c.I c.loD c.loD c.fD c.fD (.list ts) ⟨vs, by dsimp only; rw [if_pos rfl]; exact p, r⟩
    have av : AVal B g₂ s'.heap (σ' ++ [.list ts]) (.own σ'.length) (.ref D) := ⟨by rw [List.length_append]; simp, by rw [er]⟩
    have F₂ := F.ext x₂
    obtain ⟨m, hm⟩ := c.ns
    have Cno : ∀ a, XE env a → a ≠ C := fun a q => Nat.ne_of_lt (Nat.lt_of_lt_of_le (F.below a q) c.loC)
    refine wpAny_mono (wpAny_assign_Name (bindN_ok N I₂ F₂ av e2)) (fun _ s₂ y => ?_) fun _ _ y => y
    obtain ⟨x₃, I₃, F₃, r₃⟩ := y
    have fC₂ : Free g₂ (σ' ++ [.list ts]) s'.heap C := by
      refine ⟨c.fC.lt, by rw [ez]; exact c.fC.nz, fun ⟨j, q⟩ => ?_⟩
      exact (eo C ⟨j, q⟩).elim c.fC.no fun q => q.elim (fun q => c.ne q.symm) fun q => c.ne q.symm
    have fC₃ := fC₂.ext x₃
    refine ⟨m, ?_, fun h' hs' => ?_⟩
    · obtain ⟨o, es, ep, ho, q⟩ := hm
      exact ⟨o, es, ep, x₃.keep C o ho fC₂.no (fun q => Cno C q.xe rfl), q⟩
    · obtain ⟨I₄, x₄⟩ := I₃.setFree fC₃.nz fC₃.no hs'
      refine ⟨g₂, ?_, I₄, F₃.extX x₄ (fun q => Cno _ (.inl rfl) q) (fun y c e q => Cno _ (.inr ⟨y, e⟩) q), rfl, (c.r.trans r₃).trans ⟨rfl, rfl, rfl⟩⟩
      exact (((x₂.weaken (Y := fun a => XE env a ∨ a = C) fun _ q => q.elim).trans I I₂ (x₃.weaken fun _ q => .inl q.xe)).trans I I₃ (x₄.weaken fun _ q => .inr q)).forget (Y := XE env) fun a (q : XE env a ∨ a = C) => q.elim .inl fun (w : a = C) => .inr (by rw [w]; exact c.loC)
end
end Mine
end
section
set_option maxRecDepth 100000
set_option autoImplicit false
namespace Mine
open PySem PySem.W PyProof.Rows

section
variable {B : Base} {R : Rec} {n : Nat} {g g' : Gh} {σ σ' σ₁ σ₂ : Sg} {A : Around} {s s₁ s₂ : Shared} {env : Env} {cx : Cx} {Γ Γ' : Ga} {lo hi : Nat} {ts : List T} {it : Value} {h h' : Heap} {fl : Fl} {C D : Addr}

theorem PX.nexts (I : Inv B g σ s.heap) (F : FrameOk B env g σ s.heap Γ) (x : E0 g σ s g' σ₁ s₁) (I₁ : Inv B g' σ₁ s₁.heap) (r : SameRest s s₁) : PX B env g σ s .next Γ σ₁ .next s₁ :=
  ⟨g', x.weaken fun _ q => q.elim, I₁, F.ext x, rfl, r⟩
theorem PX.into (I : Inv B g σ s.heap) (x : E0 g σ s g' σ₁ s₁) (I₁ : Inv B g' σ₁ s₁.heap) (r : SameRest s s₁) {m : Sem Flow} (h : wpAny (BM B) A m (PX B env g' σ₁ s₁ fl Γ' σ₂) no s₁) : wpAny (BM B) A m (PX B env g σ s fl Γ' σ₂) no s₁ :=
  wpAny_mono h (fun _ _ q => PX.trans I I₁ (x.weaken fun _ q => q.elim) r q) fun _ _ y => y

theorem mapSeq_any (f : Array Value → Array Value) (its : Array Value) (m : Nat) : Obj.mapSeq f { cls := .type "list", data := .seq its m } = { cls := .type "list", data := .seq (f its) (if (f its).size == its.size then m else m + 1) } := rfl
set_option tactic.hygienic false in
theorem setItem_plain {l : Addr} {items : Array Value} {k : Int} {t : Tok} {v : Value} {Q : Unit → Shared → Prop} (hl : s.heap.PlainList l items) (h0 : 0 ≤ k) (hfit : k < 2 ^ 63) (hn : k < items.size)
    (hQ : ∀ h', h'.PlainList l (items.setIfInBounds k.toNat v) → Heap.SameBut l s.heap h' → Q () { s with heap := h' }) : wpAny (BM B) A (setItem (.ref l) (.int k t) v) Q no s := by
  obtain ⟨m, ho⟩ := hl
  have hT : s.TypeIs (.ref l) "list" := ⟨_, ho, rfl⟩
  unfold setItem
  try with_reducible refine wpAny_holding ?_
  first | refine wpAny_bind (wpAny_pure ?_) | skip
  refine wpAny_bind (wpAny_sequenceKey hT (by decide) ?_)
  refine wpAny_bind (wpAny_callSpecial?_slot (name := Str.ofString "__setitem__") hT slot_list_setitem (wpAny_call_entry slot_list_setitem hT entry_list_setitem ?_ (args_list_setitem _ _ _)))
  show wpAny _ _ (Builtin.List.listSubscript? (.int k t) >>= _) _ _ s
  refine wpAny_bind (wpAny_listSubscript_int (fitsIndex_of h0 hfit) ?_)
  clear hfit
  obtain ⟨j, rfl⟩ := Int.eq_ofNat_of_zero_le h0
  have hj : j < items.size := by omega
  have hx' : items[j]? = some items[j] := Array.getElem?_eq_getElem hj
  show wpAny _ _ ((seqItemAt l j >>= fun r => pure (r.map (j, ·))) >>= _) _ _ s
  refine wpAny_bind (wpAny_bind (wpAny_seqItemAt ho rfl (wpAny_pure ?_)))
  rw [hx']
  show wpAny _ _ (setSeqItemAt l j v >>= _) _ _ s
  have hfin : (s.heap.update l (Obj.mapSeq (·.setIfInBounds j v))).PlainList l (items.setIfInBounds j v) :=
    ⟨_, by rw [Heap.get?_update_self _ ho (by rw [mapSeq_any]; rfl), mapSeq_any]⟩
  refine wpAny_bind (wpAny_setSeqItemAt ho rfl ?_)
  first
    | exact wpAny_bind (wpAny_pure (wpAny_pure ⟨.none, rfl, wpAny_pure (hQ _ hfin (Heap.SameBut.update ..))⟩))
    | exact wpAny_pure ⟨.none, rfl, wpAny_pure (hQ _ hfin (Heap.SameBut.update ..))⟩
theorem RepL.set {Z : Addr → Prop} : ∀ {ts : List T} {vs : List Value} (j : Nat) {t : T} {v : Value}, RepL B Z h ts vs → Rep B Z h t v → RepL B Z h (ts.set j t) (vs.set j v)
  | [], vs, _, _, _, x, _ => by rw [show vs = [] from x]; exact rfl
  | _ :: _, _, 0, _, _, xx, z => by obtain ⟨_, _, e, _, y⟩ := xx; subst e; exact ⟨_, _, rfl, z, y⟩
  | _ :: _, _, j + 1, _, _, xx, z => by obtain ⟨_, _, e, x, y⟩ := xx; subst e; exact ⟨_, _, rfl, x, RepL.set j y z⟩

set_option tactic.hygienic false in
theorem oneGen_inv {gs : List Comprehension} {tg it : Expr} {ifs : List Expr} (e : oneGen gs = some (tg, it, ifs)) : gs = [⟨tg, it, ifs, 0⟩] := by
  induction gs using List.casesOn with
  | nil => first | exact nn e | exact nf e | first | exact nn e | exact nf e | cases e
  | cons g r => induction r using List.casesOn with
    | cons _ _ => first | exact nn e | exact nf e | first | exact nn e | exact nf e | cases e
    | nil =>
      obtain ⟨t, i, f, k⟩ := g
      have e : (if k = 0 then some (t, i, f) else none) = some (tg, it, ifs) := e
      by_cases q : k = 0
      · rw [if_pos q] at e; cases e; rw [q]
      · rw [if_neg q] at e; first | exact nn e | exact nf e | first | exact nn e | exact nf e | cases e
set_option tactic.hygienic false in
theorem expr_ok (S : Snd B R n) (hb : Bnd A n) (N : EnvOk cx env) (I : Inv B g σ s.heap) (F : FrameOk B env g σ s.heap Γ) {ex : Expr} {pos : Pos} (e : expS R cx Γ σ ex = some (fl, Γ', σ')) :
    wpAny (BM B) A (exec (.Expr ex pos) env) (PX B env g σ s fl Γ' σ') no s := by
  have hnm : interactive env = false := by unfold interactive; rw [N.kind]; rfl
  induction ex using PySem.Expr.casesOn with
  | Call f as kws p => induction kws using List.casesOn with
    | cons _ _ => first | exact nn e | exact nf e | first | exact nn e | exact nf e | cases e
    | nil =>
      have e : exprS R cx Γ σ f as p = some (fl, Γ', σ') := e
      unfold exprS at e
      induction e1 : R.e cx Γ σ (.Call f as [] p) using Option.casesOn with
      | none => rw [e1] at e; first | exact nn e | exact nf e | first | exact nn e | exact nf e | cases e
      | some r =>
        obtain ⟨v, σ₁⟩ := r
        rw [e1] at e
        induction v using AV.casesOn with
        | own => first | exact nn e | exact nf e | first | exact nn e | exact nf e | cases e
        | t x => cases x with
          | none =>
            first | exact nn e | exact nf e | first | exact nn e | exact nf e | cases e
            exact wpAny_Expr_any (goE (S.e _ _ _ _ _ _ e1 A env g s hb N I F) fun v s₁ g₁ x₁ I₁ r₁ av => PX.nexts I F x₁ I₁ r₁) hnm
          | _ => first | exact nn e | exact nf e | first | exact nn e | exact nf e | cases e
  | _ => first | exact nn e | exact nf e | first | exact nn e | exact nf e | cases e
set_option tactic.hygienic false in
theorem ret_ok (S : Snd B R n) (hb : Bnd A n) (N : EnvOk cx env) (I : Inv B g σ s.heap) (F : FrameOk B env g σ s.heap Γ) {ex : Expr} {pos : Pos} (e : retS R cx Γ σ ex = some (fl, Γ', σ')) :
    wpAny (BM B) A (exec (.Return (some ex) pos) env) (PX B env g σ s fl Γ' σ') no s := by
  unfold retS at e
  induction e1 : R.e cx Γ σ ex using Option.casesOn with
  | none => rw [e1] at e; first | exact nn e | exact nf e | first | exact nn e | exact nf e | cases e
  | some r =>
    obtain ⟨v, σ₁⟩ := r
    rw [e1] at e
    first | exact nn e | exact nf e | first | exact nn e | exact nf e | cases e
    exact wpAny_Return_some (goE (S.e _ _ _ _ _ _ e1 A env g s hb N I F) fun v s₁ g₁ x₁ I₁ r₁ av => ⟨g₁, x₁.weaken fun _ q => q.elim, I₁, F.ext x₁, ⟨v, rfl, av⟩, r₁⟩)
set_option tactic.hygienic false in
theorem asgS_ok (S : Snd B R n) (hb : Bnd A n) (N : EnvOk cx env) (I : Inv B g σ s.heap) (F : FrameOk B env g σ s.heap Γ) {x : Str} {ex : Expr} {q pos : Pos} (e : asgS R cx Γ σ x ex = some (fl, Γ', σ')) :
    wpAny (BM B) A (exec (.Assign [.Name x q] ex pos) env) (PX B env g σ s fl Γ' σ') no s := by
  unfold asgS at e
  induction hs : notSwap ex using Bool.casesOn with
  | false => rw [hs] at e; first | exact nn e | exact nf e | first | exact nn e | exact nf e | cases e
  | true =>
    rw [hs] at e
    dsimp only at e
    induction e1 : R.e cx Γ σ ex using Option.casesOn with
    | none => rw [e1] at e; first | exact nn e | exact nf e | first | exact nn e | exact nf e | cases e
    | some r =>
      obtain ⟨v, σ₁⟩ := r
      rw [e1] at e
      dsimp only at e
      induction e2 : bindN cx x v Γ using Option.casesOn with
      | none => rw [e2] at e; first | exact nn e | exact nf e | first | exact nn e | exact nf e | cases e
      | some Γ₁ =>
        rw [e2] at e
        first | exact nn e | exact nf e | first | exact nn e | exact nf e | cases e
        refine wpAny_Assign_Name (goE (S.e _ _ _ _ _ _ e1 A env g s hb N I F) fun v s₁ g₁ x₁ I₁ r₁ av => ?_) (swap_no hs _ _)
        exact wpAny_mono (bindN_ok N I₁ (F.ext x₁) av e2) (fun _ s₂ y => PX.bound I x₁ I₁ r₁ y) fun _ _ y => y
set_option tactic.hygienic false in
theorem asgN_ok (W : Facts B) (S : Snd B R n) (hb : Bnd A n) (N : EnvOk cx env) (I : Inv B g σ s.heap) (F : FrameOk B env g σ s.heap Γ) {x : Str} {ex : Expr} {q pos : Pos} (e : asgN R cx Γ σ x ex = some (fl, Γ', σ')) :
    wpAny (BM B) A (exec (.Assign [.Name x q] ex pos) env) (PX B env g σ s fl Γ' σ') no s := by
  induction ex using PySem.Expr.casesOn with
  | ListComp elt gs sc p =>
    unfold asgN at e
    dsimp only at e
    induction h : oneGen gs using Option.casesOn with
    | none => rw [h] at e; first | exact nn e | exact nf e | first | exact nn e | exact nf e | cases e
    | some r =>
      obtain ⟨tg, it, ifs⟩ := r
      rw [h] at e
      have hg := oneGen_inv h
      subst hg
      have e : asgCS R cx Γ σ x elt tg it ifs sc = some (fl, Γ', σ') := e
      unfold asgCS at e
      induction e1 : compE R cx Γ σ elt tg it ifs sc using Option.casesOn with
      | none => rw [e1] at e; first | exact nn e | exact nf e | first | exact nn e | exact nf e | cases e
      | some r =>
        obtain ⟨ts, σ₁⟩ := r
        rw [e1] at e
        dsimp only at e
        induction e2 : bindN cx x (.own σ₁.length) Γ using Option.casesOn with
        | none => rw [e2] at e; first | exact nn e | exact nf e | first | exact nn e | exact nf e | cases e
        | some Γ₁ =>
          rw [e2] at e
          first | exact nn e | exact nf e | first | exact nn e | exact nf e | cases e
          exact assignComp_ok W S hb N I F e1 e2
  | _ => exact asgS_ok S hb N I F e
set_option tactic.hygienic false in
theorem twoN_inv {es : List Expr} {x y : Str} (e : twoN es = some (x, y)) : ∃ p q, es = [.Name x p, .Name y q] := by
  induction es using List.casesOn with
  | nil => first | exact nn e | exact nf e | first | exact nn e | exact nf e | cases e
  | cons a r => induction r using List.casesOn with
    | nil => first | exact nn e | exact nf e | first | exact nn e | exact nf e | cases e
    | cons b r => induction r using List.casesOn with
      | cons _ _ => first | exact nn e | exact nf e | first | exact nn e | exact nf e | cases e
      | nil => induction a using PySem.Expr.casesOn with
        | Name u p => induction b using PySem.Expr.casesOn with
          | Name v q => cases e; exact ⟨p, q, rfl⟩
          | _ => first | exact nn e | exact nf e | first | exact nn e | exact nf e | cases e
        | _ => first | exact nn e | exact nf e | first | exact nn e | exact nf e | cases e
set_option tactic.hygienic false in
theorem asgUS_ok (W : Facts B) (hb : Bnd A n) (N : EnvOk cx env) (I : Inv B g σ s.heap) (F : FrameOk B env g σ s.heap Γ) {x y z : Str} {p q w u : Pos} {k : Nat} {pos : Pos} (e : asgUS cx Γ σ x y z = some (fl, Γ', σ')) :
    wpAny (BM B) A (exec (.Assign [.Tuple [.Name x p, .Name y q] k w] (.Name z u) pos) env) (PX B env g σ s fl Γ' σ') no s := by
  unfold asgUS at e
  refine pgen fun P hP => ?_
  induction e1 : nameV cx Γ z using Option.casesOn with
  | none => rw [e1] at e; first | exact nn e | exact nf e | first | exact nn e | exact nf e | cases e
  | some v =>
    rw [e1] at e
    induction v using AV.casesOn with
    | t => first | exact nn e | exact nf e | first | exact nn e | exact nf e | cases e
    | own i =>
      dsimp only at e
      induction q : σ[i]? using Option.casesOn with
      | none => rw [q] at e; first | exact nn e | exact nf e | first | exact nn e | exact nf e | cases e
      | some o =>
        rw [q] at e
        cases o with
        | list l => induction l using List.casesOn with
          | nil => first | exact nn e | exact nf e | first | exact nn e | exact nf e | cases e
          | cons a l => induction l using List.casesOn with
            | nil => first | exact nn e | exact nf e | first | exact nn e | exact nf e | cases e
            | cons b l => induction l using List.casesOn with
              | cons _ _ => first | exact nn e | exact nf e | first | exact nn e | exact nf e | cases e
              | nil =>
                dsimp only at e
                induction e2 : bindN cx x (.t a) Γ using Option.casesOn with
                | none => rw [e2] at e; first | exact nn e | exact nf e | first | exact nn e | exact nf e | cases e
                | some Γ₁ =>
                  rw [e2] at e
                  dsimp only at e
                  induction e3 : bindN cx y (.t b) Γ₁ using Option.casesOn with
                  | none => rw [e3] at e; first | exact nn e | exact nf e | first | exact nn e | exact nf e | cases e
                  | some Γ₂ =>
                    rw [e3] at e
                    first | exact nn e | exact nf e | first | exact nn e | exact nf e | cases e
                    refine hP ?_
                    clear hP
                    refine Assign_Tuple (goE (name_ok W N I F e1) fun v s₁ g₁ x₁ I₁ r₁ av => ?_)
                    obtain ⟨hi, rfl⟩ := av
                    obtain ⟨ws, p, rp⟩ := I₁.obj i _ q
                    obtain ⟨v1, rs, rfl, rv1, v2, rs2, rfl, rv2, hr⟩ := rp
                    have hr : rs2 = [] := hr
                    subst hr
                    rw [arm_assign_Tuple]
                    refine wpAny_bind (wpAny_standAt ?_)
                    unfold unpack
                    refine wpAny_bind (wpAny_holding (wpAny_size (kun_itemsOf (items := [v1, v2].toArray) hb.hd p.isList fun h' hx sz => ?_)))
                    obtain ⟨I', x'⟩ := I₁.grow0 (h' := h') (fun b o eo => hx b o (Nat.ne_of_lt (Heap.lt_size eo)) eo) sz
                    refine wpAny_assignInOrder_more (wpAny_assign_Name (wpAny_mono (bindN_ok (s := ⟨h', s₁.gens, s₁.drawn, s₁.toks, s₁.os⟩) N I' ((F.ext x₁).ext x') (a := .t a) (x'.rep rv1) e2) (fun _ s₂ y => ?_) fun _ _ y => y))
                    refine wpAny_assignInOrder_more (wpAny_assign_Name (wpAny_mono (bindN_ok N y.2.1 y.2.2.1 (a := .t b) (y.1.rep (x'.rep rv2)) e3) (fun _ s₃ z => ?_) fun _ _ y => y))
                    exact wpAny_assignInOrder_none (PX.bound (s₁ := ⟨h', s₁.gens, s₁.drawn, s₁.toks, s₁.os⟩) I (x₁.trans I I₁ x') I' (r₁.trans ⟨rfl, rfl, rfl⟩) (PBind.trans (s := ⟨h', s₁.gens, s₁.drawn, s₁.toks, s₁.os⟩) I' y z))
        | _ => first | exact nn e | exact nf e | first | exact nn e | exact nf e | cases e
set_option tactic.hygienic false in
theorem asgTS_ok (S : Snd B R n) (hb : Bnd A n) (N : EnvOk cx env) (I : Inv B g σ s.heap) (F : FrameOk B env g σ s.heap Γ) {es : List Expr} {k : Nat} {p p' : Pos} {f : Expr} {as : List Expr} {pos : Pos} (e : asgTS R cx Γ σ es k p f as p' = some (fl, Γ', σ')) :
    wpAny (BM B) A (exec (.Assign [.Tuple es k p] (.Call f as [] p') pos) env) (PX B env g σ s fl Γ' σ') no s := by
  unfold asgTS at e
  induction e1 : R.e cx Γ σ (.Call f as [] p') using Option.casesOn with
  | none => rw [e1] at e; first | exact nn e | exact nf e | first | exact nn e | exact nf e | cases e
  | some r =>
    obtain ⟨v, σ₁⟩ := r
    rw [e1] at e
    induction v using AV.casesOn with
    | own => first | exact nn e | exact nf e | first | exact nn e | exact nf e | cases e
    | t v =>
      dsimp only at e
      induction e2 : bindT cx (.Tuple es k p) v Γ using Option.casesOn with
      | none => rw [e2] at e; first | exact nn e | exact nf e | first | exact nn e | exact nf e | cases e
      | some Γ₁ =>
        rw [e2] at e
        first | exact nn e | exact nf e | first | exact nn e | exact nf e | cases e
        refine Assign_Tuple (goE (S.e _ _ _ _ _ _ e1 A env g s hb N I F) fun v s₁ g₁ x₁ I₁ r₁ av => ?_)
        exact wpAny_mono (bindT_ok N hb.hd I₁ (F.ext x₁) av e2) (fun _ s₂ y => PX.bound I x₁ I₁ r₁ y) fun _ _ y => y
set_option tactic.hygienic false in
theorem asgAS_ok (W : Facts B) (S : Snd B R n) (hb : Bnd A n) (N : EnvOk cx env) (I : Inv B g σ s.heap) (F : FrameOk B env g σ s.heap Γ) {o : Expr} {nm : Str} {ex : Expr} {p pos : Pos} (e : asgAS R cx Γ σ o nm ex = some (fl, Γ', σ')) :
    wpAny (BM B) A (exec (.Assign [.Attribute o nm p] ex pos) env) (PX B env g σ s fl Γ' σ') no s := by
  unfold asgAS at e
  refine pgen fun P hP => ?_
  induction e1 : R.e cx Γ σ ex using Option.casesOn with
  | none => rw [e1] at e; first | exact nn e | exact nf e | first | exact nn e | exact nf e | cases e
  | some r =>
    obtain ⟨v, σ₁⟩ := r
    rw [e1] at e
    dsimp only at e
    induction e2 : R.e cx Γ σ₁ o using Option.casesOn with
    | none => rw [e2] at e; first | exact nn e | exact nf e | first | exact nn e | exact nf e | cases e
    | some r =>
      obtain ⟨w, σ₂⟩ := r
      rw [e2] at e
      induction w using AV.casesOn with
      | t => first | exact nn e | exact nf e | first | exact nn e | exact nf e | cases e
      | own i =>
        dsimp only at e
        induction q : σ₂[i]? using Option.casesOn with
        | none => rw [q] at e; first | exact nn e | exact nf e | first | exact nn e | exact nf e | cases e
        | some ob =>
          rw [q] at e
          cases ob with
          | inst c ns vs =>
            dsimp only at e
            induction hm : (memS nm c.flds && sizeOk ns.length) using Bool.casesOn with
            | false => rw [hm] at e; first | exact nn e | exact nf e | first | exact nn e | exact nf e | cases e
            | true =>
              rw [hm] at e
              first | exact nn e | exact nf e | first | exact nn e | exact nf e | cases e
              have hm := Bool.and_eq_true_iff.mp hm
              refine hP ?_
              clear hP
              refine plainObj_wpAny_Assign_Attribute (goE (S.e _ _ _ _ _ _ e1 A env g s hb N I F) fun v s₁ g₁ x₁ I₁ r₁ av => ?_) (swap_attr ..)
              refine goE (S.e _ _ _ _ _ _ e2 A env g₁ s₁ hb N I₁ (F.ext x₁)) fun o s₂ g₂ x₂ I₂ r₂ ao => ?_
              obtain ⟨hi, rfl⟩ := ao
              obtain ⟨hne, ws, yi, ya⟩ := I₂.obj i _ q
              refine setattr_ok W I₂ hm.1 (sizeOk_le hm.2) yi hne fun h' tk yi' hs => ?_
              obtain ⟨pe, pa⟩ := putN_av (n := _) (x₂.aval av) ya
              rw [← pe] at yi'
              obtain ⟨I₃, x₃⟩ := I₂.setInst q hs yi' pa
              exact PX.nexts I F ((x₁.trans I I₁ x₂).trans I I₂ x₃) I₃ ((r₁.trans r₂).trans ⟨rfl, rfl, rfl⟩)
          | _ => first | exact nn e | exact nf e | first | exact nn e | exact nf e | cases e
/-- a store: what its parts were -/
inductive AsgBS (R : Rec) (cx : Cx) (Γ : Ga) (σ : Sg) (o k ex : Expr) (fl : Fl) (Γ' : Ga) (σ' : Sg) : Prop
  | mk (v : AV) (σ₁ : Sg) (i : Nat) (σ₂ : Sg) (kt : T) (σ₃ : Sg) (key : Key) (t : T) (σ₄ : Sg) (e1 : R.e cx Γ σ ex = some (v, σ₁)) (e2 : R.e cx Γ σ₁ o = some (.own i, σ₂)) (e3 : R.e cx Γ σ₂ k = some (.t kt, σ₃)) (hk : keyOf kt = some key) (hf : frz σ₃ v = some (t, σ₄))
    (d : fl = .next ∧ Γ' = Γ ∧ ((∃ ks us ks' us', σ₄[i]? = some (.dict ks us) ∧ putD key t ks us = some (ks', us') ∧ σ' = σ₄.set i (.dict ks' us')) ∨
     ∃ us m, σ₄[i]? = some (.list us) ∧ key = .i m ∧ 0 ≤ m ∧ m < us.length ∧ sizeOk us.length = true ∧ σ' = σ₄.set i (.list (us.set m.toNat t)))) : AsgBS R cx Γ σ o k ex fl Γ' σ'
set_option tactic.hygienic false in
theorem asgBS_inv {o k ex : Expr} (e : asgBS R cx Γ σ o k ex = some (fl, Γ', σ')) : AsgBS R cx Γ σ o k ex fl Γ' σ' := by
  unfold asgBS at e
  refine pgen fun P hP => ?_
  induction e1 : R.e cx Γ σ ex using Option.casesOn with
  | none => rw [e1] at e; first | exact nn e | exact nf e | first | exact nn e | exact nf e | cases e
  | some r =>
    obtain ⟨v, σ₁⟩ := r
    rw [e1] at e
    dsimp only at e
    induction e2 : R.e cx Γ σ₁ o using Option.casesOn with
    | none => rw [e2] at e; first | exact nn e | exact nf e | first | exact nn e | exact nf e | cases e
    | some r =>
      obtain ⟨w, σ₂⟩ := r
      rw [e2] at e
      induction w using AV.casesOn with
      | t => first | exact nn e | exact nf e | first | exact nn e | exact nf e | cases e
      | own i =>
        dsimp only at e
        induction e3 : R.e cx Γ σ₂ k using Option.casesOn with
        | none => rw [e3] at e; first | exact nn e | exact nf e | first | exact nn e | exact nf e | cases e
        | some r =>
          obtain ⟨w, σ₃⟩ := r
          rw [e3] at e
          induction w using AV.casesOn with
          | own => first | exact nn e | exact nf e | first | exact nn e | exact nf e | cases e
          | t kt =>
            dsimp only at e
            induction hk : keyOf kt using Option.casesOn with
            | none => rw [hk] at e; first | exact nn e | exact nf e | first | exact nn e | exact nf e | cases e
            | some key =>
              rw [hk] at e
              induction hf : frz σ₃ v using Option.casesOn with
              | none => rw [hf] at e; first | exact nn e | exact nf e | first | exact nn e | exact nf e | cases e
              | some r =>
                obtain ⟨t, σ₄⟩ := r
                rw [hf] at e
                dsimp only at e
                refine hP ⟨v, σ₁, i, σ₂, kt, σ₃, key, t, σ₄, e1, e2, e3, hk, hf, ?_⟩
                clear hP e1 e2 e3 hk hf
                refine pgen fun P hP => ?_
                induction q : σ₄[i]? using Option.casesOn with
                | none => rw [q] at e; first | exact nn e | exact nf e | first | exact nn e | exact nf e | cases e
                | some ob =>
                  rw [q] at e
                  cases ob with
                  | dict ks us =>
                    dsimp only at e
                    induction hp : putD key t ks us using Option.casesOn with
                    | none => rw [hp] at e; first | exact nn e | exact nf e | first | exact nn e | exact nf e | cases e
                    | some r => obtain ⟨ks', us'⟩ := r; rw [hp] at e; cases e; exact hP ⟨rfl, rfl, .inl ⟨ks, us, ks', us', q, hp, rfl⟩⟩
                  | list us => cases key with
                    | s _ => first | exact nn e | exact nf e | first | exact nn e | exact nf e | cases e
                    | i m =>
                      dsimp only at e
                      by_cases hz : (decide (0 ≤ m) && decide (m < us.length) && sizeOk us.length) = true
                      · rw [if_pos hz] at e; first | exact nn e | exact nf e | first | exact nn e | exact nf e | cases e
                        rw [Bool.and_eq_true, Bool.and_eq_true] at hz
                        exact hP ⟨rfl, rfl, .inr ⟨us, m, q, rfl, of_decide_eq_true hz.1.1, of_decide_eq_true hz.1.2, hz.2, rfl⟩⟩
                      · rw [if_neg hz] at e; first | exact nn e | exact nf e | first | exact nn e | exact nf e | cases e
                  | _ => first | exact nn e | exact nf e | first | exact nn e | exact nf e | cases e
set_option tactic.hygienic false in
theorem asgBS_ok (S : Snd B R n) (hb : Bnd A n) (N : EnvOk cx env) (I : Inv B g σ s.heap) (F : FrameOk B env g σ s.heap Γ) {o k ex : Expr} {p pos : Pos} (e : asgBS R cx Γ σ o k ex = some (fl, Γ', σ')) :
    wpAny (BM B) A (exec (.Assign [.Subscript o k p] ex pos) env) (PX B env g σ s fl Γ' σ') no s := by
  obtain ⟨v, σ₁, i, σ₂, kt, σ₃, key, t, σ₄, e1, e2, e3, hk, hf, hfl, hΓ, dd⟩ := asgBS_inv e
  clear e
  subst hfl hΓ
  refine wpAny_Assign_Subscript (goE (S.e _ _ _ _ _ _ e1 A env g s hb N I F) fun v s₁ g₁ x₁ I₁ r₁ av => ?_) (swap_sub ..)
  refine goE (S.e _ _ _ _ _ _ e2 A env g₁ s₁ hb N I₁ (F.ext x₁)) fun o s₂ g₂ x₂ I₂ r₂ ao => ?_
  have x12 := x₁.trans I I₁ x₂
  refine goE (S.e _ _ _ _ _ _ e3 A env g₂ s₂ hb N I₂ (F.ext x12)) fun kv s₃ g₃ x₃ I₃ r₃ ak => ?_
  obtain ⟨g₄, I₄, x₄, rt⟩ := frz_ok I₃ ((x₂.aval av) |> x₃.aval) hf
  obtain ⟨hi, rfl⟩ := x₄.aval (x₃.aval ao)
  have x14 := (x12.trans I I₂ x₃).trans I I₃ x₄
  have r13 := (r₁.trans r₂).trans r₃
  rcases dd with ⟨ks, us, ks', us', q, hp, rfl⟩ | ⟨us, m, q, rfl, z1, z2, hz, rfl⟩
  · obtain ⟨p1, p2, p3⟩ := putD_some hp
    obtain ⟨ws, yd, ya⟩ := I₄.obj i _ q
    refine setItem_dict_ok yd p1 p2 (keyOf_is hk ak) fun h' tk yd' hs => ?_
    obtain ⟨pe, pa⟩ := putK_rep key rt ya (ks := ks)
    rw [← pe] at yd'
    rw [← p3] at yd' pa
    obtain ⟨I₅, x₅⟩ := I₄.setDict q hs yd' pa
    exact PX.nexts I F (x14.trans I I₄ x₅) I₅ (r13.trans ⟨rfl, rfl, rfl⟩)
  · have z3 := sizeOk_le hz
    obtain ⟨ws, yd, ya⟩ := I₄.obj i _ q
    have hl := ya.length
    obtain ⟨tk, rfl⟩ := keyOf_is hk ak
    refine setItem_plain yd z1 (Int.lt_of_lt_of_le z2 (Int.le_trans (Int.ofNat_le.mpr z3) (by decide))) (by rw [List.size_toArray, hl]; exact z2) fun h' p' hs => ?_
    have p'' : h'.PlainList (g₄.r i) (ws.set m.toNat v).toArray := by
      have : (ws.set m.toNat v).toArray = ws.toArray.setIfInBounds m.toNat v := by simp
      rw [this]; exact p'
    obtain ⟨I₅, x₅⟩ := I₄.setList q hs p'' (ya.set m.toNat rt)
    exact PX.nexts I F (x14.trans I I₄ x₅) I₅ (r13.trans ⟨rfl, rfl, rfl⟩)
set_option tactic.hygienic false in
theorem ifS_ok (S : Snd B R n) (hb : Bnd A n) (N : EnvOk cx env) (I : Inv B g σ s.heap) (F : FrameOk B env g σ s.heap Γ) {c : Expr} {a b : List Stmt} {pos : Pos} (e : ifS R cx Γ σ c a b = some (fl, Γ', σ')) :
    wpAny (BM B) A (exec (.If c a b pos) env) (PX B env g σ s fl Γ' σ') no s := by
  unfold ifS at e
  induction e1 : R.b cx Γ σ c using Option.casesOn with
  | none => rw [e1] at e; first | exact nn e | exact nf e | first | exact nn e | exact nf e | cases e
  | some r =>
    obtain ⟨k, σ₁⟩ := r
    rw [e1] at e
    refine wpAny_If (wpAny_mono (S.b _ _ _ _ _ _ e1 A env g s hb N I F) (fun b s₁ ⟨g₁, x₁, I₁, hv, r₁⟩ => ?_) fun _ _ y => y)
    subst hv
    cases b <;> exact PX.into I x₁ I₁ r₁ (S.x _ _ _ _ _ _ _ e A env g₁ s₁ hb N I₁ (F.ext x₁))
set_option tactic.hygienic false in
theorem try_ok (S : Snd B R n) (hb : Bnd A n) (N : EnvOk cx env) (I : Inv B g σ s.heap) (F : FrameOk B env g σ s.heap Γ) {body els fin : List Stmt} {hs : List ExceptHandler} {pos : Pos} (e : tryS R cx Γ σ body hs els fin = some (fl, Γ', σ')) :
    wpAny (BM B) A (exec (.Try body hs els fin pos) env) (PX B env g σ s fl Γ' σ') no s := by
  induction hs using List.casesOn with
  | nil => first | exact nn e | exact nf e | first | exact nn e | exact nf e | cases e
  | cons h₀ hs => induction els using List.casesOn with
    | cons _ _ => first | exact nn e | exact nf e | first | exact nn e | exact nf e | cases e
    | nil => induction fin using List.casesOn with
      | cons _ _ => first | exact nn e | exact nf e | first | exact nn e | exact nf e | cases e
      | nil =>
        refine wpAny_Try_except (wpAny_mono (S.x _ _ _ _ _ _ _ e A env g s hb N I F) (fun f s₁ q => ?_) fun _ _ y => y.elim)
        cases f with
        | next => exact wpAny_execs_nil q
        | brk => exact q
        | cont => exact q
        | ret v => exact q
set_option tactic.hygienic false in
theorem asgX_ok (W : Facts B) (S : Snd B R n) (hb : Bnd A n) (N : EnvOk cx env) (I : Inv B g σ s.heap) (F : FrameOk B env g σ s.heap Γ) {t ex : Expr} {pos : Pos} (e : asgX R cx Γ σ t ex = some (fl, Γ', σ')) :
    wpAny (BM B) A (exec (.Assign [t] ex pos) env) (PX B env g σ s fl Γ' σ') no s := by
  induction t using PySem.Expr.casesOn with
  | Name x q => exact asgN_ok W S hb N I F e
  | Attribute o nm p => exact asgAS_ok W S hb N I F e
  | Subscript o k p => exact asgBS_ok S hb N I F e
  | Tuple es k p => induction ex using PySem.Expr.casesOn with
    | Name z u =>
      have e : (match twoN es with | some (x, y) => asgUS cx Γ σ x y z | none => none) = some (fl, Γ', σ') := e
      induction h : twoN es using Option.casesOn with
      | none => rw [h] at e; first | exact nn e | exact nf e | first | exact nn e | exact nf e | cases e
      | some r =>
        obtain ⟨x, y⟩ := r
        rw [h] at e
        obtain ⟨p, q, rfl⟩ := twoN_inv h
        exact asgUS_ok W hb N I F e
    | Call f as kws p' => induction kws using List.casesOn with
      | nil => exact asgTS_ok S hb N I F e
      | cons _ _ => first | exact nn e | exact nf e | first | exact nn e | exact nf e | cases e
    | _ => first | exact nn e | exact nf e | first | exact nn e | exact nf e | cases e
  | _ => first | exact nn e | exact nf e | first | exact nn e | exact nf e | cases e
set_option tactic.hygienic false in
theorem stmt_ok (W : Facts B) (S : Snd B R n) (hb : Bnd A n) (N : EnvOk cx env) (I : Inv B g σ s.heap) (F : FrameOk B env g σ s.heap Γ) {st : Stmt} (e : stepS R cx Γ σ st = some (fl, Γ', σ')) :
    wpAny (BM B) A (exec st env) (PX B env g σ s fl Γ' σ') no s := by
  cases st with
  | Expr ex p => exact expr_ok S hb N I F e
  | Return ex p => induction ex using Option.casesOn with
    | none => first | exact nn e | exact nf e | first | exact nn e | exact nf e | cases e
    | some ex => exact ret_ok S hb N I F e
  | Assign ts ex p => induction ts using List.casesOn with
    | nil => first | exact nn e | exact nf e | first | exact nn e | exact nf e | cases e
    | cons t ts => induction ts using List.casesOn with
      | cons _ _ => first | exact nn e | exact nf e | first | exact nn e | exact nf e | cases e
      | nil => exact asgX_ok W S hb N I F e
  | If c a b p => exact ifS_ok S hb N I F e
  | For tg it body els p => induction els using List.casesOn with
    | cons _ _ => first | exact nn e | exact nf e | first | exact nn e | exact nf e | cases e
    | nil =>
      have e : forS R cx Γ σ tg it body = some (fl, Γ', σ') := e
      unfold forS at e
      induction e1 : srcE R cx Γ σ it using Option.casesOn with
      | none => rw [e1] at e; first | exact nn e | exact nf e | first | exact nn e | exact nf e | cases e
      | some r =>
        obtain ⟨vs, σ₁⟩ := r
        rw [e1] at e
        exact for_ok W S hb N I F e1 e
  | While c body els p => induction els using List.casesOn with
    | cons _ _ => first | exact nn e | exact nf e | first | exact nn e | exact nf e | cases e
    | nil => exact while_ok S hb N I F e
  | Try body hs els fin p => exact try_ok S hb N I F e
  | _ => first | exact nn e | exact nf e | first | exact nn e | exact nf e | cases e

theorem block_ok (W : Facts B) (S : Snd B R n) (N : EnvOk cx env) (hb : Bnd A n) : ∀ (b : List Stmt) {g : Gh} {σ : Sg} {s : Shared} {Γ : Ga} (_ : Inv B g σ s.heap) (_ : FrameOk B env g σ s.heap Γ) (_ : stepX R cx Γ σ b = some (fl, Γ', σ')),
    wpAny (BM B) A (execs b env) (PX B env g σ s fl Γ' σ') no s
  | [], g, σ, s, Γ, I, F, e => by
    first | exact nn e | exact nf e | first | exact nn e | exact nf e | cases e
    exact wpAny_execs_nil ⟨g, Ext.refl, I, F, rfl, SameRest.refl⟩
  | st :: b, g, σ, s, Γ, I, F, e => by
    unfold stepX at e
    split at e
    · rename_i Γ₁ σ₁ e1
      refine wpAny_execs_cons (wpAny_mono (stmt_ok W S hb N I F e1) (fun f s₁ ⟨g₁, x₁, I₁, F₁, hf, r₁⟩ => ?_) fun _ _ y => y)
      rw [show f = .next from hf]
      exact wpAny_mono (block_ok W S N hb b I₁ F₁ e) (fun _ _ q => PX.trans I I₁ x₁ r₁ q) fun _ _ y => y
    · rename_i v Γ₁ σ₁ e1
      first | exact nn e | exact nf e | first | exact nn e | exact nf e | cases e
      refine wpAny_execs_cons (wpAny_mono (stmt_ok W S hb N I F e1) (fun f s₁ q => ?_) fun _ _ y => y)
      obtain ⟨g₁, x₁, I₁, F₁, ⟨u, rfl, au⟩, r₁⟩ := q
      exact ⟨g₁, x₁, I₁, F₁, ⟨u, rfl, au⟩, r₁⟩
    · first | exact nn e | exact nf e | first | exact nn e | exact nf e | cases e
theorem xOk_of (W : Facts B) (S : Snd B R n) : XOk B R n := fun cx Γ σ b fl Γ' σ' e A env g s hb N I F => block_ok W S N hb b I F e
end
end Mine
end
section
set_option maxRecDepth 100000
set_option autoImplicit false
namespace Mine
open PySem PySem.W PyProof.Rows

section
variable {B : Base} {R : Rec} {n : Nat} {g g' : Gh} {σ σ' σ₁ σ₂ : Sg} {A : Around} {s s₁ s₂ : Shared} {env : Env} {cx : Cx} {Γ Γ' : Ga} {lo hi : Nat} {ts : List T} {it : Value} {h h' : Heap} {fl : Fl} {C D : Addr}

/-! isinstance -/
theorem isi_plain (W : Facts B) (I : Inv B g σ s.heap) {v : Value} {Tn : String} {H : Heap → Prop} (Z : KitX B.K v (.type Tn) H) (p : H s.heap) (hT : Tn ∈ ["NoneType", "bool", "int", "str", "tuple", "list", "dict"]) (hv : v ≠ .builtin "__main__.__loader__#opaque") {c : CN} :
    wpAny (BM B) A (call (.builtin "isinstance") [v, .ref (B.ca c)]) (PE B g σ s (.t (.bool false)) σ) no s :=
  kia_one Z (W.now I) p (W.isi.tc c Tn hT) hv fun tk => PE.rep I rfl
theorem isi_bi (W : Facts B) (I : Inv B g σ s.heap) {v : Value} {Tn U : String} {H : Heap → Prop} (Z : KitX B.K v (.type Tn) H) (p : H s.heap) (hT : Tn ∈ ["NoneType", "bool", "int", "str", "tuple", "list", "dict"]) (hU : U ∈ ["bool", "int", "list", "dict"]) (hv : v ≠ .builtin "__main__.__loader__#opaque")
    {b : Bool} (hb : (Tn == U || (Tn == "bool" && U == "int")) = b) : wpAny (BM B) A (call (.builtin "isinstance") [v, .type U]) (PE B g σ s (.t (.bool b)) σ) no s :=
  kia_one Z (W.now I) p (W.isi.tb Tn hT U hU) hv fun tk => PE.rep I (by rw [hb]; rfl)
theorem kitx_inst (W : Facts B) {x d : Addr} {es : List DictEntry} {k : Nat} (c : CN) : KitX B.K (.ref x) (.ref (B.ca c)) (fun h => PySem.W.InstAt h x (instObj (B.ca c) d) (B.ca c) (some (dictOf es k))) :=
  let ⟨a, b, e, m⟩ := W.isi.own c
  kitx_own a b e W.isi.get.1 W.isi.get.2 m

noncomputable def tagS : Nat → String
  | 0 => "NoneType"
  | 1 => "bool"
  | 2 => "int"
  | 3 => "str"
  | 4 => "tuple"
  | 5 => "list"
  | _ => "dict"
/-  what a plain tree's value says of its class -/
set_option tactic.hygienic false in
theorem tagged {x : T} {t : Nat} (e : tagT x = some t) {v : Value} (hv : Rep B g.Z s.heap x v) : t ≤ 6 ∧ v ≠ .builtin "__main__.__loader__#opaque" ∧ ∃ H, KitX B.K v (.type (tagS t)) H ∧ H s.heap := by
  induction x using T.casesOn with
  | none => cases e; have hv : v = .none := hv; subst hv; exact ⟨by decide, nofun, _, kitx_none, trivial⟩
  | bool b => cases e; have hv : v = .bool b := hv; subst hv; exact ⟨by decide, nofun, _, kitx_bool, trivial⟩
  | int n => cases e; obtain ⟨k, rfl⟩ := hv; exact ⟨by decide, nofun, _, kitx_int, trivial⟩
  | str n => cases e; obtain ⟨k, rfl⟩ := hv; exact ⟨by decide, nofun, _, kitx_str, trivial⟩
  | list ts => cases e; obtain ⟨a, vs, rfl, z, ⟨n, p⟩, q⟩ := hv; exact ⟨by decide, nofun, _, kitx_list, _, p, rfl⟩
  | tup ts => cases e; obtain ⟨a, vs, rfl, z, ⟨n, p⟩, q⟩ := hv; exact ⟨by decide, nofun, _, kitx_tuple, _, p, rfl⟩
  | dict ks ts =>
    first | exact nn e | exact nf e | first | exact nn e | exact nf e | cases e
    obtain ⟨a, vs, rfl, z, ⟨_, p⟩, _⟩ := hv
    refine ⟨by decide, nofun, _, kitx_dict, ?_⟩
    rcases p with ⟨kvs, p, _⟩ | ⟨kvs, p, _⟩
    · have z : s.TypeIs (.ref a) "dict" := p.typeIs
      exact z
    · have z : s.TypeIs (.ref a) "dict" := p.typeIs
      exact z
  | _ => first | exact nn e | exact nf e | first | exact nn e | exact nf e | cases e
set_option tactic.hygienic false in
theorem tagS_mem {t : Nat} (h : t ≤ 6) : tagS t ∈ ["NoneType", "bool", "int", "str", "tuple", "list", "dict"] := by
  have : ∀ t, t ≤ 6 → tagS t ∈ ["NoneType", "bool", "int", "str", "tuple", "list", "dict"] := by decide
  exact this t h
set_option tactic.hygienic false in
theorem subTag_eq : ∀ t, t ≤ 6 → ∀ u ∈ [1, 2, 5, 6], (tagS t == tagS u || (tagS t == "bool" && tagS u == "int")) = subTag t u := by decide
set_option tactic.hygienic false in
theorem tagB_is {b : BI} {u : Nat} (e : tagB b = some u) : biV b = .type (tagS u) ∧ u ∈ [1, 2, 5, 6] := by
  cases b <;> first | (cases e; done) | (cases e; exact ⟨rfl, by decide⟩)
set_option tactic.hygienic false in
theorem tagU_mem {u : Nat} (h : u ∈ [1, 2, 5, 6]) : tagS u ∈ ["bool", "int", "list", "dict"] := by
  have : ∀ u ∈ [1, 2, 5, 6], tagS u ∈ ["bool", "int", "list", "dict"] := by decide
  exact this u h
set_option tactic.hygienic false in
theorem isi_ok (W : Facts B) (I : Inv B g σ s.heap) {x c : T} {r : Bool} (e : isiT x c = some r) {v u : Value} (hv : Rep B g.Z s.heap x v) (hu : Rep B g.Z s.heap c u) :
    wpAny (BM B) A (call (.builtin "isinstance") [v, u]) (PE B g σ s (.t (.bool r)) σ) no s := by
  have instAt' : ∀ {d : CN}, clsOfT x = some d → ∃ y dd es k, v = .ref y ∧ PySem.W.InstAt s.heap y (instObj (B.ca d) dd) (B.ca d) (some (dictOf es k)) := by
    intro d hd
    cases x with
    | inst d' ns ts =>
      cases hd
      obtain ⟨x, dd, vs, rfl, _, _, ⟨h1, es, k, h2, _⟩, _⟩ := hv
      exact ⟨x, dd, es, k, rfl, instAt h1 h2⟩
    | _ => cases hd
  induction c using T.casesOn with
  | cls c =>
    have hu : u = .ref (B.ca c) := hu
    subst hu
    unfold isiT at e
    dsimp only at e
    induction hd : clsOfT x using Option.casesOn with
    | some d =>
      rw [hd] at e; first | exact nn e | exact nf e | first | exact nn e | exact nf e | cases e
      obtain ⟨y, dd, es, k, rfl, J⟩ := instAt' hd
      exact kia_one (kitx_inst W d) (W.now I) J (W.isi.cc d c) nofun fun tk => PE.rep I rfl
    | none =>
      rw [hd] at e
      dsimp only at e
      induction ht : tagT x using Option.casesOn with
      | none => rw [ht] at e; first | exact nn e | exact nf e | first | exact nn e | exact nf e | cases e
      | some t =>
        rw [ht] at e; first | exact nn e | exact nf e | first | exact nn e | exact nf e | cases e
        obtain ⟨h6, hne, H, Z, p⟩ := tagged ht hv
        exact isi_plain W I Z p (tagS_mem h6) hne
  | bi b =>
    have hu : u = biV b := hu
    subst hu
    unfold isiT at e
    dsimp only at e
    induction hb : tagB b using Option.casesOn with
    | none => rw [hb] at e; first | exact nn e | exact nf e | first | exact nn e | exact nf e | cases e
    | some w =>
      obtain ⟨q1, q2⟩ := tagB_is hb
      rw [q1]
      rw [hb] at e
      dsimp only at e
      induction hd : clsOfT x using Option.casesOn with
      | some d =>
        rw [hd] at e; first | exact nn e | exact nf e | first | exact nn e | exact nf e | cases e
        obtain ⟨y, dd, es, k, rfl, J⟩ := instAt' hd
        exact kia_one (kitx_inst W _) (W.now I) J (W.isi.cb _ _ (tagU_mem q2)) nofun fun tk => PE.rep I rfl
      | none =>
        rw [hd] at e
        dsimp only at e
        induction ht : tagT x using Option.casesOn with
        | none => rw [ht] at e; first | exact nn e | exact nf e | first | exact nn e | exact nf e | cases e
        | some t =>
          rw [ht] at e; first | exact nn e | exact nf e | first | exact nn e | exact nf e | cases e
          obtain ⟨h6, hne, H, Z, p⟩ := tagged ht hv
          exact isi_bi W I Z p (tagS_mem h6) (tagU_mem q2) hne (subTag_eq t h6 w q2)
  | _ => first | exact nn e | exact nf e | first | exact nn e | exact nf e | cases e
end
end Mine
end
section
set_option maxRecDepth 100000
set_option autoImplicit false
namespace Mine
open PySem PySem.W PyProof.Rows

section
variable {prog : Program} {w : World} {A : Around} {E : Value → Shared → Prop} {s : Shared}

set_option tactic.hygienic false in
theorem meets_tuple_list (l : Addr) (vs : List Value) (hsz : vs.length ≤ sizeLine) : Meets (Builtin.«tuple.__new__» ⟨[.type "tuple", .ref l], []⟩)
    (fun _ R s => s.heap.IsList l vs.toArray ∧ R (.ok (.ret (.ref (s.heap.objs.size + 1)))) { s with heap := ((s.heap.push (seqObj "list" #[] 0)).update s.heap.objs.size (Obj.mapSeq (· ++ vs.toArray))).push { cls := .type "tuple", data := .seq vs.toArray } }) :=
  .of_wp fun prog w A R s h => by
    obtain ⟨hp, g, d, tk, os⟩ := s
    obtain ⟨hl, h⟩ := h
    have hsub := sub_tuple_self
    have hinit := init_tuple_lookup
    have hmh := madeHere_tuple
    obtain ⟨o, ho, hc, n, hd⟩ := id hl
    have hT : Shared.TypeIs ⟨hp, g, d, tk, os⟩ (.ref l) "list" := ⟨o, ho, hc⟩
    wp_walk using AutoSeq1.wpAny_loadPart' ho, wpAny_typeOf hT, collect_list (hsz := hsz) hl
    refine ⟨_, rfl, ?_⟩
    have e : ((hp.push (seqObj "list" #[] 0)).update hp.objs.size (Obj.mapSeq (· ++ vs.toArray))).objs.size = hp.objs.size + 1 := by rw [Heap.size_update, size_push']
    have h' := h
    dsimp only at h'
    rw [← e] at h'
    exact h'
set_option tactic.hygienic false in
theorem tuple_of_list {l : Addr} {vs : List Value} {Q : Value → Shared → Prop} (hl : s.heap.IsList l vs.toArray) (hsz : vs.length ≤ sizeLine)
    (h : Q (.ref (s.heap.objs.size + 1)) { s with heap := ((s.heap.push (seqObj "list" #[] 0)).update s.heap.objs.size (Obj.mapSeq (· ++ vs.toArray))).push { cls := .type "tuple", data := .seq vs.toArray } }) :
    wpAny (model prog w) A (call (.type "tuple") [.ref l]) Q E s := by
  refine callType_new F.called_tuple (by decide) (F.typeCall_tuple_1 _) (F.newCall_tuple_1 _) (fun obj => F.args_object_init_2 obj _) F.entry_tuple_new (meets_tuple_list l vs hsz) ⟨hl, ⟨⟨{ cls := .type "tuple", data := .seq vs.toArray }, ?_, rfl⟩, h⟩⟩
  have e : ((s.heap.push (seqObj "list" #[] 0)).update s.heap.objs.size (Obj.mapSeq (· ++ vs.toArray))).objs.size = s.heap.objs.size + 1 := by rw [Heap.size_update, size_push']
  rw [← e]
  exact Heap.get?_push_size _ rfl

theorem buffer_at {id : String} {b : Array UInt8} {t : Tok} {Q : Option (Array UInt8) → Shared → Prop} (h : Q (some b) s) : wpAny (model prog w) A (Builtin.Bytes.buffer? id (.bytes b t)) Q E s := wpAny_of_eq KBy.buffer_eq h
set_option tactic.hygienic false in
theorem meets_startswith (a b : Array UInt8) (t u : Tok) : Meets (Builtin.«bytes.startswith» ⟨[.bytes a t, .bytes b u], []⟩)
    (fun _ R s => R (.ok (.ret (.bool (if (a.size : Int) < (b.size : Int) then false else a.extract 0 (0 + b.size) == b)))) s) :=
  .of_wp fun prog w A R s h => by
    obtain ⟨hp, g, d, tk, os⟩ := s
    have hsub : isSubtype (.type "bytes") (.type "tuple") = pure false := by rw [isSubtype_type]; kernel_rfl
    have h1 : selfAndSome (s!"{Builtin.Bytes.Kind.bytes.name}.{"startswith"}") "startswith" 1 3 ⟨[.bytes a t, .bytes b u], []⟩ = pure (.bytes a t, [.bytes b u]) := by kernel_rfl
    have hi : isInstance (.bytes b u) (.type "tuple") = pure false := by
      have e : isInstance (.bytes b u) (.type "tuple") = isSubtype (.type "bytes") (.type "tuple") := rfl
      rw [e, hsub]
    have e : Builtin.Bytes.window a.size none none = (0, (a.size : Int)) := by
      unfold Builtin.Bytes.window
      simp only [Option.getD_none, Int.lt_irrefl, if_false]
      rw [if_neg (by omega)]
      simp
    unfold Builtin.«bytes.startswith» Builtin.Bytes.tailMatchM
    refine wpAny_bind (wpAny_of_eq h1 ?_)
    dsimp only
    refine wpAny_bind (wpAny_of_eq (a := none) rfl ?_)
    refine wpAny_bind (wpAny_of_eq (a := none) rfl ?_)
    refine wpAny_bind (wpAny_of_eq (a := a) rfl ?_)
    rw [e]
    dsimp only
    refine wpAny_bind (wpAny_of_eq hi ?_)
    refine bm_if_false rfl ?_
    refine wpAny_bind (buffer_at ?_)
    simp only [Int.sub_zero, Int.toNat_zero, Bool.false_eq_true, if_false]
    exact wpAny_pure ⟨_, rfl, h⟩
set_option tactic.hygienic false in
theorem bytes_look : typeLookup (.type "bytes") "__bytes__" = pure (some (.builtin "bytes.__bytes__")) := by rw [typeLookup_type, builtinLookup_eq_fast]; kernel_rfl
set_option tactic.hygienic false in
theorem bytes_same_new (b : Array UInt8) (t : Tok) {Q : Value → Shared → Prop} (h : Q (.bytes b t) s) : codeAny (model prog w) A (.call (.builtin "bytes.__new__") ⟨[.type "bytes", .bytes b t], []⟩) (wants Q E) s := by
  refine codeAny_of_tree ?_
  show wpAny _ A.in1 (do checkBuiltinCall "bytes.__new__" ⟨[.type "bytes", .bytes b t], []⟩; again (.builtin "bytes.__new__" ⟨[.type "bytes", .bytes b t], []⟩)) _ _ s
  refine wpAny_bind (wpAny_of_eq (F.bm_newCall _) (wpAny_pure ⟨plainId_quiet F.bm_plain _, codeAny_builtin F.bm_entry ?_⟩))
  rw [Around.under_plainId F.bm_plain _]
  have hT : s.TypeIs (.bytes b t) "bytes" := typeIs_bytes _ _ _
  unfold Builtin.«bytes.__new__»
  refine wpAny_bind (wpAny_of_eq (a := true) rfl ?_)
  refine bm_if_false rfl ?_
  refine wpAny_bind (wpAny_of_eq F.bm_sub ?_)
  refine bm_if_false rfl ?_
  refine wpAny_bind (wpAny_of_eq (F.bm_bind _) ?_)
  refine wpAny_bind (wpAny_of_eq (a := ()) rfl ?_)
  refine wpAny_bind (wpAny_of_eq (a := ()) rfl ?_)
  refine bm_if_false rfl ?_
  refine wpAny_bind (wpAny_specialOf hT bytes_look ?_)
  refine wpAny_bind (wpAny_rule ?_)
  refine wpAny_bind (wpAny_typeOf hT ?_)
  refine bm_if_true (by decide) ?_
  show wpAny _ _ (if (Value.type "bytes" == Value.type "bytes") = true then _ else _) _ _ _
  refine bm_if_true (by decide) ?_
  first
    | exact wpAny_pure h
    | exact wpAny_bind (wpAny_pure (wpAny_pure h))
set_option tactic.hygienic false in
theorem bytes_same (b : Array UInt8) (t : Tok) {Q : Value → Shared → Prop} (h : Q (.bytes b t) s) : wpAny (model prog w) A (call (.type "bytes") [.bytes b t]) Q E s := by
  refine callType_codes (Q₁ := fun obj s₁ => s₁.TypeIs obj "bytes" ∧ Q obj s₁) F.bm_called (F.bm_typeCall _) F.entry_object_init (bytes_same_new b t ⟨typeIs_bytes _ _ _, h⟩) fun obj s₁ h₁ => ?_
  exact ⟨h₁.1, F.args_object_init_2 obj _, object_init_meets F.bm_called.init.lookup F.bm_called.made (by decide) prog w A.in1 _ s₁ ⟨h₁.1, rfl, h₁.2⟩⟩
end
end Mine
end
section
set_option maxRecDepth 100000
set_option autoImplicit false
namespace Mine
open PySem PySem.W PyProof.Rows

section
variable {prog : Program} {w : World} {A : Around} {E : Value → Shared → Prop} {s : Shared}

theorem no_keys : typeLookup (.type "list") (Str.ofString "keys") = pure none := am_miss_of_fast (by kernel_rfl)
set_option tactic.hygienic false in
theorem getAttrQ_miss {a : Addr} {xs : Array Value} {Q : Option Value → Shared → Prop} (hx : s.heap.PlainList a xs) (hA : A.handled = none)
    (h : ∀ h' tk, (∀ b o, s.heap.get? b = some o → h'.get? b = some o) → Q none { s with heap := h', toks := tk }) :
    wpAny (model prog w) A (getAttr? (.ref a) (Str.ofString "keys")) Q E s := by
  obtain ⟨k, hx⟩ := hx
  obtain ⟨hp, g, d, tk, os⟩ := s
  have hT : ∀ tk', (⟨hp, g, d, tk', os⟩ : Shared).TypeIs (.ref a) "list" := fun _ => ⟨_, hx, rfl⟩
  have f1 := sub_AttributeError
  have f3 := F.slot_list_getattribute.lookup
  have f4 := F.slot_list_getattribute.bind (.ref a)
  have f5 := am_list_getattr_none
  unfold getAttr? getAttrBy? getAttrBy
  repeat (any_goals (first | assumption | exact hT _ | ((with_reducible show wpAny _ _ (call (Value.builtin "list.__getattribute__") _ _) _ _ _); refine call_meets F.slot_list_getattribute (hT _) am_entry_list_getattribute (F.args_list_getattribute_2 _ _) (meets_getattribute_miss_list a xs k #[] (Str.ofString "keys") _ no_keys (by decide +kernel) (by decide +kernel)) ⟨hx, hA, fun h' tk' e hx' => ?_⟩) | wp_step))
  obtain ⟨t', u', he⟩ := hx'.there
  show wpAny _ _ (getattributeRaised _ _ _ _ _ _ _) _ _ _
  unfold getattributeRaised
  repeat (any_goals (first | assumption | wp_step))
  exact h _ _ hx'.keeps
set_option tactic.hygienic false in
theorem upd_entry : entryFor table "dict.update.loop" = some Builtin.«dict.update.loop» := by first | exact entryFor_of_fast (by kernel_rfl) | exact entryFor_of_tree (by kernel_rfl)
set_option tactic.hygienic false in
theorem upd_plain : plainId "dict.update.loop" = true := by decide +kernel
end

section
variable {B : Base} {R : Rec} {n : Nat} {g g' : Gh} {σ σ' σ₁ σ₂ : Sg} {A : Around} {s s₁ s₂ : Shared} {env : Env} {cx : Cx} {Γ Γ' : Ga} {lo hi : Nat} {ts : List T} {it : Value} {h h' : Heap} {fl : Fl} {C D d : Addr}

set_option tactic.hygienic false in
theorem pairsOf_cons {t : T} {ts : List T} {l : List (Key × T)} (e : pairsOf (t :: ts) = some l) : ∃ a b k l', t = .tup [a, b] ∧ keyOf a = some k ∧ pairsOf ts = some l' ∧ l = (k, b) :: l' := by
  refine pgen fun P hP => ?_
  induction t using T.casesOn with
  | tup us => induction us using List.casesOn with
    | nil => exact nn e
    | cons a us => induction us using List.casesOn with
      | nil => exact nn e
      | cons b us => induction us using List.casesOn with
        | cons _ _ => exact nn e
        | nil =>
          have e : (match keyOf a, pairsOf ts with
            | some k, some l => some ((k, b) :: l)
            | _, _ => none) = some l := e
          induction e1 : keyOf a using Option.casesOn with
          | none => rw [e1] at e; exact nn e
          | some k => induction e2 : pairsOf ts using Option.casesOn with
            | none => rw [e1, e2] at e; exact nn e
            | some l' => rw [e1, e2] at e; exact hP ⟨a, b, k, l', rfl, e1, e2, (Option.some.inj e).symm⟩
  | _ => exact nn e

inductive UpdP (B : Base) (lo d : Nat) (g : Gh) (σ : Sg) (s : Shared) (ks' : List Key) (us' : List T) (r : Result) (s' : Shared) : Prop
  | mk (hr : r = .ok (.ret .none)) (x : Ext (fun a => a = d ∨ lo ≤ a) g σ s.heap g σ s'.heap) (i : Inv B g σ s'.heap) (q : SameRest s s') (z : ∃ vs', DictIs B s'.heap d ks' vs' ∧ RepL B g.Z s'.heap us' vs') : UpdP B lo d g σ s ks' us' r s'
theorem updLoop_ok (hd : A.handled = none) (hdl : hi ≤ d ∨ d < lo) : ∀ (ts : List T) {l : List (Key × T)} {ks : List Key} {us : List T} {vs : List Value} {ks' : List Key} {us' : List T} {s : Shared} {i : Int} {tk : Tok} (_ : Inv B g σ s.heap) (_ : Free g σ s.heap d)
    (_ : DictIs B s.heap d ks vs) (_ : RepL B g.Z s.heap us vs) (_ : Src B A.in1 lo hi g σ s.heap ts it) (_ : pairsOf ts = some l) (_ : dictOfPairs l (ks, us) = some (ks', us')),
    codeAny (BM B) A (.builtin "dict.update.loop" ⟨[.ref d, it, .int i tk, .none], []⟩) (UpdP B lo d g σ s ks' us') s
  | [], l, ks, us, vs, ks', us', s, i, tk, I, fd, D, r, S, e1, e2 => by
    first | exact nn e1 | exact nf e1 | first | exact nn e1 | exact nf e1 | cases e1
    first | exact nn e2 | exact nf e2 | first | exact nn e2 | exact nf e2 | cases e2
    refine codeAny_gen fun RR hR => ?_
    refine codeAny_builtin upd_entry ?_
    rw [Around.under_plainId upd_plain _]
    show wpAny _ A.in1 (pyNext it >>= _) _ _ s
    refine wpAny_bind (wpAny_mono (S.done I) (fun q s₁ ⟨hq, I₁, x₁, r₁⟩ => ?_) fun _ _ y => y.elim)
    subst hq
    dsimp only
    refine wpAny_bind (m := Builtin.Dict.addKeywords d []) (wpAny_of_eq (a := ()) rfl ?_)
    have D₁ : DictIs B s₁.heap d ks vs := D.keep fun o e => x₁.keep d o e fd.no fun q => hdl.elim (fun w => absurd q.2 (Nat.not_lt_of_le w)) fun w => absurd w (Nat.not_lt_of_le q.1)
    exact wpAny_pure (hR _ _ ⟨rfl, x₁.weaken fun _ q => .inr q.1, I₁, r₁, vs, D₁, x₁.repL r⟩)
  | t :: ts, l, ks, us, vs, ks', us', s, i, tk, I, fd, D, r, S, e1, e2 => by
    refine codeAny_gen fun RR hR => ?_
    obtain ⟨a, b, k, l', rfl, hk, e3, rfl⟩ := pairsOf_cons e1
    unfold dictOfPairs at e2
    split at e2
    · rename_i d' e4
      obtain ⟨h1, h2, rfl⟩ := putD_some e4
      refine codeAny_builtin upd_entry ?_
      rw [Around.under_plainId upd_plain _]
      show wpAny _ A.in1 (pyNext it >>= _) _ _ s
      refine wpAny_bind (wpAny_mono (S.next I) (fun q s₁ ⟨v, hq, rv, I₁, x₁, r₁, S₁⟩ => ?_) fun _ _ y => y.elim)
      subst hq
      dsimp only
      have D₁ : DictIs B s₁.heap d ks vs := D.keep fun o e => x₁.keep d o e fd.no fun q => hdl.elim (fun w => absurd q.2 (Nat.not_lt_of_le w)) fun w => absurd w (Nat.not_lt_of_le q.1)
      obtain ⟨tp, ws, rfl, z, ⟨m, p⟩, q⟩ := rv
      obtain ⟨v1, r1, rfl, rv1, v2, r2, rfl, rv2, hr2⟩ := q
      have hr2 : r2 = [] := hr2
      subst hr2
      refine wpAny_bind (wpAny_holding (wpAny_bind (wpAny_tryCatch ?_)))
      unfold Builtin.Dict.pairItems
      refine wpAny_bind (wpAny_typeOf (T := "tuple") ⟨_, p, rfl⟩ ?_)
      refine bm_if_true (by decide) ?_
      refine wpAny_bind (wpAny_seqItems p rfl (wpAny_pure ?_))
      show wpAny _ _ (holding [v1, v2] (dictSet d v1 v2)) _ _ _
      refine wpAny_holding (wpAny_mono (set_dict_ok D₁ h1 h2 (keyOf_is hk rv1) fun h' tk' D₂ hs => ?_) (fun _ _ q => q) fun _ _ y => y.elim)
      have fd₁ := fd.ext x₁
      obtain ⟨I₂, x₂⟩ := I₁.setFree fd₁.nz fd₁.no hs
      have y := putK_rep (B := B) (Z := g.Z) (h := h') k (x₂.rep rv2) (x₂.repL (x₁.repL r)) (ks := ks)
      rw [← y.1] at D₂
      have S₂ := S₁.ext x₂ (fun a (w : a = d) => by rw [w]; exact hdl.symm)
      refine wpAny_pure ⟨plainId_quiet upd_plain _, codeAny_mono (updLoop_ok hd hdl ts (s := ⟨h', s₁.gens, s₁.drawn, tk', s₁.os⟩) I₂ (fd₁.ext x₂) D₂ y.2 S₂ e3 e2) fun r' s' ⟨hr, x₃, I₃, r₃, z⟩ => hR _ _ ⟨hr, ?_, I₃, (r₁.trans ⟨rfl, rfl, rfl⟩).trans r₃, z⟩⟩
      exact ((x₁.weaken (Y := fun a => a = d ∨ lo ≤ a) fun _ q => .inr q.1).trans I I₁ (x₂.weaken fun _ q => .inl q)).trans I I₂ x₃
    · first | exact nn e2 | exact nf e2 | first | exact nn e2 | exact nf e2 | cases e2
end
end Mine
end
section
set_option maxRecDepth 100000
set_option autoImplicit false
namespace Mine
open PySem PySem.W PyProof.Rows

section
variable {B : Base} {R : Rec} {n : Nat} {g g' : Gh} {σ σ' σ₁ σ₂ : Sg} {A : Around} {s s₁ s₂ : Shared} {env : Env} {cx : Cx} {Γ Γ' : Ga} {lo hi : Nat} {ts us : List T} {it : Value} {h h' : Heap} {fl : Fl} {C D d : Addr}

set_option tactic.hygienic false in
theorem dictPairs_ok (hd : A.handled = none) (Iv : Inv B g σ s.heap) {l : Value} (r : Rep B g.Z s.heap (.list ts) l) {pl : List (Key × T)} {ks' : List Key} (e : pairsOf ts = some pl) (e2 : dictOfPairs pl ([], []) = some (ks', us)) :
    wpAny (BM B) A (call (.type "dict") [l]) (PE B g σ s (.own σ.length) (σ ++ [.dict ks' us])) no s := by
  obtain ⟨a, vs, rfl, z, p, q⟩ := id r
  have hsm : (s.heap.objs.size == sysModules) = false := by
    have := Iv.sm
    exact beq_eq_false_iff_ne.mpr fun w => by rw [w] at this; exact Nat.lt_irrefl _ this
  refine callType_codes (Q₁ := fun obj s₁ => obj = .ref s.heap.objs.size ∧ s₁ = { s with heap := s.heap.push { cls := .type "dict", data := .dict #[] } }) F.kt_called_dict (F.kt_typeCall_dict_1 _) F.entry_dict_init (kt_code_dict_new _ ⟨rfl, rfl⟩) ?_
  rintro obj s₁ ⟨rfl, rfl⟩
  have hnew : (s.heap.push { cls := .type "dict", data := .dict #[] }).DictOf (intKind B.prog B.w) s.heap.objs.size [] := Heap.DictOf.new s.heap
  have D0 : DictIs B (s.heap.push { cls := .type "dict", data := .dict #[] }) s.heap.objs.size [] [] := ⟨hsm, .inl ⟨[], hnew, rfl, rfl⟩⟩
  obtain ⟨I₀, x₀⟩ := Iv.grow0 (h' := s.heap.push { cls := .type "dict", data := .dict #[] }) (push_keeps _ _) (by simp)
  have fd := Iv.free_new (h' := s.heap.push { cls := .type "dict", data := .dict #[] }) (Nat.le_refl _) (by simp)
  refine ⟨hnew.typeIs, F.args_dict_init_2 _ _, ?_⟩
  unfold Builtin.«dict.__init__»
  refine wpAny_bind ?_
  unfold Builtin.Dict.selfAndRest
  refine wpAny_bind (wpAny_notOrdered_dict hnew.typeIs ?_)
  show wpAny _ _ (pure (s.heap.objs.size, [Value.ref a])) _ _ _
  refine wpAny_pure ?_
  show wpAny _ _ (Builtin.Dict.updateFrom "dict.__init__" s.heap.objs.size (.ref a) [] .none) _ _ _
  unfold Builtin.Dict.updateFrom
  have pl' : ({ s with heap := s.heap.push { cls := .type "dict", data := .dict #[] } } : Shared).heap.PlainList a vs.toArray := p.at fun o => push_keeps _ _ a o
  refine wpAny_bind (wpAny_typeOf pl'.isList.typeIs ?_)
  refine bm_if_true (by decide) ?_
  refine wpAny_bind (wpAny_size (getAttrQ_miss pl' hd fun h' tk hk sz => ?_))
  refine bm_if_true rfl ?_
  refine wpAny_bind (wpAny_rule ?_)
  obtain ⟨I₁, x₁⟩ := I₀.grow0 (h' := h') hk sz
  have x01 := x₀.trans Iv I₀ x₁
  refine wpAny_bind (wpAny_mono (iter_ok (A := A.in1.in1) (lo := s.heap.objs.size + 1) (s := ⟨h', s.gens, s.drawn, tk, s.os⟩) I₁ (x01.rep r) rfl hd (by have := x₁.size; rw [Heap.size_push] at this; exact this)) (fun it s₂ ⟨g₂, x₂, I₂, r₂, S₂⟩ => ?_) fun _ _ y => y.elim)
  have D₂ : DictIs B s₂.heap s.heap.objs.size [] [] := (D0.keep fun o eo => x₁.keep _ o eo fd.no id).keep fun o eo => x₂.keep _ o eo (fd.ext x₁).no id
  have fd₂ := (fd.ext x₁).ext x₂
  refine wpAny_pure ⟨plainId_quiet upd_plain _, codeAny_mono (updLoop_ok (A := A.in1) hd (.inr (Nat.lt_succ_self _)) ts I₂ fd₂ D₂ (show RepL B g₂.Z s₂.heap [] [] from rfl) S₂ e e2) fun r' s₃ ⟨hr, x₃, I₃, r₃, ws, D₃, rw₃⟩ => ?_⟩
  subst hr
  have x02 := x01.trans Iv I₁ x₂
  have x03 : Ext (fun _ => False) g σ s.heap g₂ σ s₃.heap := ((x02.weaken (Y := fun a => a = s.heap.objs.size ∨ s.heap.objs.size + 1 ≤ a) fun _ q => q.elim).trans Iv I₂ x₃).forget fun a q => .inr (q.elim (fun w => Nat.le_of_eq w.symm) fun w => Nat.le_of_succ_le w)
  obtain ⟨g', I', x', er, ez, eo⟩ := Iv.adopt x03 I₃ (Nat.le_refl _) (Nat.le_refl _) (fd₂.ext x₃) (fd₂.ext x₃) (.dict ks' us) ⟨ws, by dsimp only; rw [if_pos rfl]; exact D₃, rw₃⟩
  exact ⟨rfl, g', x', I', ⟨by rw [List.length_append]; simp, by rw [er]⟩, (SameRest.trans ⟨rfl, rfl, rfl⟩ r₂).trans r₃⟩
end
end Mine
end
section
set_option maxRecDepth 100000
set_option autoImplicit false
namespace Mine
open PySem PySem.W PyProof.Rows

/-! sorting of keys -/
theorem insK_perm (k : Key) : ∀ l : List Key, (insK k l).Perm (k :: l)
  | [] => .refl _
  | q :: r => by
    unfold insK
    split
    · exact .refl _
    · exact (List.Perm.cons q (insK_perm k r)).trans (List.Perm.swap k q r)
theorem sortK_perm : ∀ l : List Key, (sortK l).Perm l
  | [] => .refl _
  | k :: r => (insK_perm k (sortK r)).trans (.cons k (sortK_perm r))
/-- a total order on the keys of one kind -/
structure KOrd (P : Key → Prop) : Prop where
  trans : ∀ a b c, P a → P b → P c → b.lt a = false → c.lt b = false → c.lt a = false
  asymm : ∀ a b, P a → P b → a.lt b = true → b.lt a = false
  anti : ∀ a b, P a → P b → b.lt a = false → a.lt b = false → a = b
theorem insK_sorted {P : Key → Prop} (O : KOrd P) (k : Key) (hk : P k) : ∀ l : List Key, (∀ x ∈ l, P x) → l.Pairwise (fun a b => b.lt a = false) → (insK k l).Pairwise (fun a b => b.lt a = false)
  | [], _, _ => by simp [insK]
  | q :: r, hP, h => by
    have hq := hP q (.head _)
    have hr := List.pairwise_cons.mp h
    unfold insK
    split
    · rename_i w
      refine List.pairwise_cons.mpr ⟨fun x hx => ?_, h⟩
      have w1 := O.asymm k q hk hq w
      rcases List.mem_cons.mp hx with rfl | hx
      · exact w1
      · exact O.trans k q x hk hq (hP x (.tail _ hx)) w1 (hr.1 x hx)
    · rename_i w
      have w : k.lt q = false := by cases e : k.lt q with | true => exact absurd e w | false => rfl
      refine List.pairwise_cons.mpr ⟨fun x hx => ?_, insK_sorted O k hk r (fun x hx => hP x (.tail _ hx)) hr.2⟩
      rcases List.mem_cons.mp ((insK_perm k r).mem_iff.mp hx) with rfl | hx
      · exact w
      · exact hr.1 x hx
theorem sortK_sorted {P : Key → Prop} (O : KOrd P) : ∀ l : List Key, (∀ x ∈ l, P x) → (sortK l).Pairwise (fun a b => b.lt a = false)
  | [], _ => .nil
  | k :: r, hP => insK_sorted O k (hP k (.head _)) _ (fun x hx => hP x (.tail _ ((sortK_perm r).mem_iff.mp hx))) (sortK_sorted O r fun x hx => hP x (.tail _ hx))
set_option tactic.hygienic false in
theorem sortK_eq {P : Key → Prop} (O : KOrd P) {l l' : List Key} (hP : ∀ x ∈ l, P x) (hp : l'.Perm l) (hs : l'.Pairwise (fun a b => b.lt a = false)) : l' = sortK l := by
  refine List.Perm.eq_of_pairwise (le := fun a b => b.lt a = false) (fun a b ha hb h1 h2 => ?_) hs (sortK_sorted O l hP) (hp.trans (sortK_perm l).symm)
  exact O.anti a b (hP a (hp.mem_iff.mp ha)) (hP b ((sortK_perm l).mem_iff.mp hb)) h1 h2
noncomputable def isI : Key → Prop
  | .i _ => True
  | _ => False
noncomputable def isS : Key → Prop
  | .s _ => True
  | _ => False
set_option tactic.hygienic false in
theorem ordI : KOrd isI where
  trans a b c ha hb hc h1 h2 := by
    cases a <;> cases b <;> cases c <;> simp only [isI, Key.lt, decide_eq_false_iff_not] at * ; omega
  asymm a b ha hb h := by
    cases a <;> cases b <;> simp only [isI, Key.lt, decide_eq_false_iff_not, decide_eq_true_eq] at * ; omega
  anti a b ha hb h1 h2 := by
    cases a <;> cases b <;> simp only [isI, Key.lt, decide_eq_false_iff_not, Key.i.injEq] at * ; omega
set_option tactic.hygienic false in
theorem ltNs_eq : ∀ a b : List Nat, ltNs a b = decide (a < b)
  | [], [] => by simp [ltNs]
  | [], _ :: _ => by simp [ltNs]
  | _ :: _, [] => by simp [ltNs]
  | a :: x, b :: y => by
    unfold ltNs
    rw [ltNs_eq x y]
    by_cases h : a < b
    · rw [if_pos (by simpa [Nat.blt_eq] using h)]
      symm; rw [decide_eq_true_eq, List.cons_lt_cons_iff]; exact .inl h
    · rw [if_neg (by simpa [Nat.blt_eq] using h)]
      by_cases h2 : b < a
      · rw [if_pos (by simpa [Nat.blt_eq] using h2)]
        symm; rw [decide_eq_false_iff_not, List.cons_lt_cons_iff]; omega
      · rw [if_neg (by simpa [Nat.blt_eq] using h2)]
        have : a = b := by omega
        subst this
        congr 1
        rw [List.cons_lt_cons_iff]
        simp
theorem ordS : KOrd isS where
  trans a b c ha hb hc h1 h2 := by
    cases a <;> cases b <;> cases c <;> simp only [isS, Key.lt, ltNs_eq, decide_eq_false_iff_not] at *
    exact List.not_lt.mpr (List.le_trans (List.not_lt.mp h1) (List.not_lt.mp h2))
  asymm a b ha hb h := by
    cases a <;> cases b <;> simp only [isS, Key.lt, ltNs_eq, decide_eq_false_iff_not, decide_eq_true_eq] at *
    exact List.not_lt.mpr (List.le_of_lt h)
  anti a b ha hb h1 h2 := by
    cases a <;> cases b <;> simp only [isS, Key.lt, ltNs_eq, decide_eq_false_iff_not, Key.s.injEq] at *
    rename_i x y
    have := List.le_antisymm (List.not_lt.mp h1) (List.not_lt.mp h2)
    cases x; cases y
    simp only at this
    congr 1
    exact Array.ext' this
set_option tactic.hygienic false in
theorem rising_pairs : ∀ (p : Str) (l : List Str), risingS p l = true → (∀ x ∈ l, ¬ x.cps.toList < p.cps.toList) ∧ l.Pairwise (fun a b => ¬ b.cps.toList < a.cps.toList)
  | p, [], _ => ⟨fun _ h => (by cases h), .nil⟩
  | p, x :: r, h => by
    have h : (!PySem.Spec.ltCps x.cps.toList p.cps.toList && risingS x r) = true := h
    rw [Bool.and_eq_true, ltCps_eq] at h
    obtain ⟨h1, h2⟩ := h
    have h1 : ¬ x.cps.toList < p.cps.toList := by simpa using h1
    obtain ⟨h3, h4⟩ := rising_pairs x r h2
    refine ⟨fun y hy => ?_, List.pairwise_cons.mpr ⟨h3, h4⟩⟩
    rcases List.mem_cons.mp hy with rfl | hy
    · exact h1
    · exact List.not_lt.mpr (List.le_trans (List.not_lt.mp h1) (List.not_lt.mp (h3 y hy)))
theorem sortedS_pairs : ∀ (l : List Str), sortedS l = true → l.Pairwise (fun a b => ¬ b.cps.toList < a.cps.toList)
  | [], _ => .nil
  | x :: r, h => List.pairwise_cons.mpr (rising_pairs x r h)
set_option tactic.hygienic false in
theorem sorted_int_eq {ns ns' : List Int} (hp : ns'.Perm ns) (hs : ns'.Pairwise (· ≤ ·)) : ns'.map Key.i = sortK (ns.map Key.i) := by
  refine sortK_eq ordI (fun x hx => ?_) (hp.map Key.i) ?_
  · obtain ⟨n, _, rfl⟩ := List.mem_map.mp hx; exact trivial
  · rw [List.pairwise_map]
    exact hs.imp fun {a b} h => by show decide (b < a) = false; simp only [decide_eq_false_iff_not]; omega
set_option tactic.hygienic false in
theorem sorted_str_eq {ss ss' : List Str} (hp : ss'.Perm ss) (hs : sortedS ss' = true) : ss'.map Key.s = sortK (ss.map Key.s) := by
  refine sortK_eq ordS (fun x hx => ?_) (hp.map Key.s) ?_
  · obtain ⟨n, _, rfl⟩ := List.mem_map.mp hx; exact trivial
  · rw [List.pairwise_map]
    exact (sortedS_pairs _ hs).imp fun {a b} h => by show ltNs b.cps.toList a.cps.toList = false; rw [ltNs_eq]; simpa using h
end Mine
end
section
set_option maxRecDepth 100000
set_option autoImplicit false
namespace Mine
open PySem PySem.W PyProof.Rows

section
variable {B : Base} {R : Rec} {n : Nat} {g g' : Gh} {σ σ' σ₁ σ₂ : Sg} {A : Around} {s s₁ s₂ : Shared} {env : Env} {cx : Cx} {Γ Γ' : Ga} {lo hi : Nat} {ts us : List T} {it : Value} {h h' : Heap} {fl : Fl} {C D d : Addr}

set_option tactic.hygienic false in
theorem ints_of_acc {vs : List Value} : ∀ {ns : List Int}, vs.length = ns.length → (∀ (j : Nat) (v : Value), vs[j]? = some v → ∃ n t, ns[j]? = some n ∧ v = .int n t) → IntsAre vs ns := by
  induction vs with
  | nil => intro ns hl _; induction ns using List.casesOn with
    | nil => exact .nil
    | cons _ _ => cases hl
  | cons v vs ih =>
    intro ns hl h
    induction ns using List.casesOn with
    | nil => cases hl
    | cons n ns =>
      obtain ⟨m, t, e1, rfl⟩ := h 0 v rfl
      simp only [List.getElem?_cons_zero, Option.some.injEq] at e1
      subst e1
      exact .cons _ _ (ih (by simpa using hl) fun j w hj => h (j + 1) w (by simpa using hj))
set_option tactic.hygienic false in
theorem strs_of_acc {vs : List Value} : ∀ {ns : List Str}, vs.length = ns.length → (∀ (j : Nat) (v : Value), vs[j]? = some v → ∃ n t, ns[j]? = some n ∧ v = .str n t) → StrsAre vs ns := by
  induction vs with
  | nil => intro ns hl _; induction ns using List.casesOn with
    | nil => exact .nil
    | cons _ _ => cases hl
  | cons v vs ih =>
    intro ns hl h
    induction ns using List.casesOn with
    | nil => cases hl
    | cons n ns =>
      obtain ⟨m, t, e1, rfl⟩ := h 0 v rfl
      simp only [List.getElem?_cons_zero, Option.some.injEq] at e1
      subst e1
      exact .cons _ _ (ih (by simpa using hl) fun j w hj => h (j + 1) w (by simpa using hj))
set_option tactic.hygienic false in
theorem repL_ints {Z : Addr → Prop} : ∀ {vs : List Value} {ns : List Int}, IntsAre vs ns → RepL B Z h ((ns.map Key.i).map keyT) vs := by
  intro vs ns hh
  induction hh with
  | nil => rfl
  | cons n t r ih => exact ⟨_, _, rfl, ⟨t, rfl⟩, ih⟩
set_option tactic.hygienic false in
theorem repL_strs {Z : Addr → Prop} : ∀ {vs : List Value} {ns : List Str}, StrsAre vs ns → RepL B Z h ((ns.map Key.s).map keyT) vs := by
  intro vs ns hh
  induction hh with
  | nil => rfl
  | cons n t r ih => exact ⟨_, _, rfl, ⟨t, rfl⟩, ih⟩

set_option tactic.hygienic false in
theorem sorted_done (Iv : Inv B g σ s.heap) {h' : Heap} {tk : Nat} {acc : List Value} {out : Array Value} (hk : ∀ b o, s.heap.get? b = some o → h'.get? b = some o) (sz : s.heap.objs.size ≤ h'.objs.size)
    (r : ∀ Z h, RepL B Z h ts out.toList) : PE B g σ s (.t (.list ts)) σ (.ref h'.objs.size) ⟨sortedHeap (h'.push (seqObj "list" acc.toArray 0)) h'.objs.size acc out, s.gens, s.drawn, tk, s.os⟩ := by
  obtain ⟨e, he⟩ := sortedHeap_at (h := h'.push (seqObj "list" acc.toArray 0)) (a := h'.objs.size) (vs := acc) (n := 0) (out := out) (Heap.get?_push_size _ rfl)
  have hsz : (sortedHeap (h'.push (seqObj "list" acc.toArray 0)) h'.objs.size acc out).objs.size = h'.objs.size + 3 := by
    unfold sortedHeap
    rw [Heap.size_update, size_push', size_push', Heap.size_update, size_push']
  have k : ∀ a o, s.heap.get? a = some o → (sortedHeap (h'.push (seqObj "list" acc.toArray 0)) h'.objs.size acc out).get? a = some o := fun a o eo => by
    have hl := Heap.lt_size (hk a o eo)
    rw [sortedHeap_old (Nat.ne_of_lt hl) (by rw [size_push']; exact Nat.lt_succ_of_lt hl)]
    exact Heap.get?_push_of_some _ (hk a o eo)
  refine PE.grown Iv k (by rw [hsz]; omega) ⟨_, out.toList, rfl, .inr ⟨sz, by rw [hsz]; exact Nat.lt_add_of_pos_right (by decide)⟩, ⟨e, ?_⟩, r _ _⟩
  rw [he, Array.toArray_toList]

set_option tactic.hygienic false in
theorem sorted_ok (hd : A.handled = none) (Iv : Inv B g σ s.heap) {ks : List Key} {v : Value} (r : Rep B g.Z s.heap (.dict ks ts) v) (hl : ks.length < 64) :
    wpAny (BM B) A (call (.builtin "sorted") [v]) (PE B g σ s (.t (.list ((sortK ks).map keyT))) σ) no s := by
  obtain ⟨a, vs, rfl, z, ⟨hm, p⟩, q⟩ := r
  refine Calls.call_function_entry kind_sorted plain_sorted entry_sorted (args_sorted1 _) ?_
  unfold Builtin.«sorted»
  refine wpAny_bind (m := checkCount "sorted" 1 1 _) (wpAny_pure ?_)
  rcases p with ⟨kvs, p, rfl, rfl⟩ | ⟨kvs, p, rfl, rfl⟩
  · obtain ⟨ep, hat⟩ := p.dictAt
    have hl : kvs.length < 64 := by simpa using hl
    refine wpAny_bind (wpAny_size (kdu_collect (A := A.in1) (kdl_dict (knd := intKind B.prog B.w) (kvs := kvs) (ep := ep) hm) hd hat (line_ge (Nat.le_of_lt (Nat.lt_of_lt_of_le hl (by decide)))) fun h' tk acc hk hacc sz => ?_))
    have hlen : acc.toList.length = kvs.length := by rw [Array.length_toList]; exact hacc.1
    have hI : IntsAre acc.toList (kvs.map (·.1)) := ints_of_acc (by rw [hlen, List.length_map]) fun j v hj => by
      obtain ⟨k, x, e1, e2⟩ := hacc.2 j v (by rw [← Array.getElem?_toList]; exact hj)
      obtain ⟨t, rfl⟩ := Value.isInt_shape e2
      exact ⟨k, t, by simp [e1], rfl⟩
    refine wpAny_bind (wpAny_newList ?_ (line_ge (by rw [hlen]; exact Nat.le_of_lt (Nat.lt_of_lt_of_le hl (by decide)))))
    refine wpAny_bind (wpAny_holding (wpAny_call_entry slot_list_sort ⟨_, Heap.get?_push_size _ rfl, rfl⟩ entry_list_sort (list_sort_tree (n := 0) (vs := acc.toList) (Heap.get?_push_size _ rfl) hI (by rw [hlen]; exact hl) fun out ns' a1 a2 a3 => ⟨_, rfl, ?_⟩) (args_list_sort _)))
    refine wpAny_pure ⟨_, rfl, ?_⟩
    have e : (sortK (kvs.map fun p => Key.i p.1)) = ns'.map Key.i := by rw [sorted_int_eq a2 a3, List.map_map]; rfl
    rw [e]
    exact sorted_done Iv hk sz fun Z h => repL_ints a1
  · obtain ⟨ep, hat⟩ := p.dictAt
    have hl : kvs.length < 64 := by simpa using hl
    refine wpAny_bind (wpAny_size (kdu_collect (A := A.in1) (kdl_dict (knd := PySem.strKind B.prog B.w) (kvs := kvs) (ep := ep) hm) hd hat (line_ge (Nat.le_of_lt (Nat.lt_of_lt_of_le hl (by decide)))) fun h' tk acc hk hacc sz => ?_))
    have hlen : acc.toList.length = kvs.length := by rw [Array.length_toList]; exact hacc.1
    have hS : StrsAre acc.toList (kvs.map (·.1)) := strs_of_acc (by rw [hlen, List.length_map]) fun j v hj => by
      obtain ⟨k, x, e1, e2⟩ := hacc.2 j v (by rw [← Array.getElem?_toList]; exact hj)
      obtain ⟨t, rfl⟩ := Value.isStrOf_shape e2
      exact ⟨k, t, by simp [e1], rfl⟩
    refine wpAny_bind (wpAny_newList ?_ (line_ge (by rw [hlen]; exact Nat.le_of_lt (Nat.lt_of_lt_of_le hl (by decide)))))
    refine wpAny_bind (wpAny_holding (wpAny_call_entry slot_list_sort ⟨_, Heap.get?_push_size _ rfl, rfl⟩ entry_list_sort (list_sort_treeK (n := 0) (vs := acc.toList) strKind_oneLt (Heap.get?_push_size _ rfl) hS.keysOf (fun v₁ v₂ rest e => keyKind_strs (by rw [← e]; exact hS)) (by rw [hlen]; exact hl) fun st' hp hs => ⟨_, rfl, ?_⟩) (args_list_sort _)))
    obtain ⟨ss', a1, a2, a3⟩ := sorted_out_str hS hp hs
    refine wpAny_pure ⟨_, rfl, ?_⟩
    have e : (sortK (kvs.map fun p => Key.s p.1)) = ss'.map Key.s := by rw [sorted_str_eq a2 a3, List.map_map]; rfl
    rw [e]
    exact sorted_done Iv hk sz fun Z h => repL_strs a1
end
end Mine
end
section
set_option maxRecDepth 100000
set_option autoImplicit false
namespace Mine
open PySem PySem.W PyProof.Rows

section
variable {B : Base} {R : Rec} {n : Nat} {g g' : Gh} {σ σ' σ₁ σ₂ : Sg} {A : Around} {s s₁ s₂ : Shared} {env : Env} {cx : Cx} {Γ Γ' : Ga} {lo hi : Nat} {ts us : List T} {it : Value} {h h' : Heap} {fl : Fl} {C D d : Addr}

/-- a built-in's answer -/
noncomputable def PA (B : Base) (g : Gh) (σ : Sg) (s : Shared) (a : Ans) (v : Value) (s' : Shared) : Prop := match a with
  | .t x => PE B g σ s (.t x) σ v s'
  | .new o => PE B g σ s (.own σ.length) (σ ++ [o]) v s'

set_option tactic.hygienic false in
theorem lenL_ok (I : Inv B g σ s.heap) {v : Value} (r : Sees B g s.heap (.list ts) v) (hz : sizeOk ts.length = true) : wpAny (BM B) A (call (.builtin "len") [v]) (PE B g σ s (.t (.int ts.length)) σ) no s := by
  obtain ⟨a, vs, rfl, p, q⟩ := r
  have := q.length
  have := sizeOk_le hz
  have e : ((vs.toArray.size : Nat) : Int) = (ts.length : Int) := by simp [q.length]
  exact Calls.call_len_list p.isList (by rw [e]; omega) (PE.rep I ⟨_, by rw [e]⟩)
set_option tactic.hygienic false in
theorem lenS_ok (I : Inv B g σ s.heap) {x : Str} {k : Tok} (hz : strOk x = true) : wpAny (BM B) A (call (.builtin "len") [.str x k]) (PE B g σ s (.t (.int x.cps.toList.length)) σ) no s := by
  have hz : x.cps.toList.length ≤ 100000 := Nat.le_of_ble_eq_true hz
  have e : x.length = x.cps.toList.length := by show x.cps.size = _; simp
  refine P.len_str ?_ (PE.rep I ⟨_, by rw [e]⟩)
  rw [e]; omega

set_option tactic.hygienic false in
theorem one_arg {t : T} {vs : List Value} {Z : Addr → Prop} (r : RepL B Z h [t] vs) : ∃ v, vs = [v] ∧ Rep B Z h t v := by
  obtain ⟨v, r', rfl, x, y⟩ := r
  rw [show r' = [] from y]
  exact ⟨v, rfl, x⟩
set_option tactic.hygienic false in
theorem two_args {t u : T} {vs : List Value} {Z : Addr → Prop} (r : RepL B Z h [t, u] vs) : ∃ v w, vs = [v, w] ∧ Rep B Z h t v ∧ Rep B Z h u w := by
  obtain ⟨v, r', rfl, x, w, r'', rfl, y, z⟩ := r
  rw [show r'' = [] from z]
  exact ⟨v, w, rfl, x, y⟩

/-  an if that answers -/
set_option tactic.hygienic false in
theorem bi_str (hd : A.handled = none) (I : Inv B g σ s.heap) {m : Int} {v : Value} (x : Rep B g.Z s.heap (.int m) v) (hz : intOk m = true) : wpAny (BM B) A (call (.type "str") [v]) (PE B g σ s (.t (.str (textInt m))) σ) no s := by
  obtain ⟨k, rfl⟩ := x
  have := intOk_le hz
  exact str_of_int_fit (N := 1000001) (by split <;> omega) (by decide) fun _ => PE.rep I ⟨_, rfl⟩
set_option tactic.hygienic false in
theorem bi_chr (I : Inv B g σ s.heap) {m : Int} {v : Value} (x : Rep B g.Z s.heap (.int m) v) (hz : (decide (0 ≤ m) && decide (m < 128)) = true) : wpAny (BM B) A (call (.builtin "chr") [v]) (PE B g σ s (.t (.str ⟨#[m.toNat]⟩)) σ) no s := by
  obtain ⟨k, rfl⟩ := x
  have hz := Bool.and_eq_true_iff.mp hz
  have h1 := of_decide_eq_true hz.2
  exact chr_of_range (of_decide_eq_true hz.1) (by omega) (PE.rep I ⟨_, rfl⟩)
set_option tactic.hygienic false in
theorem bi_tuple (I : Inv B g σ s.heap) {v : Value} (x : Rep B g.Z s.heap (.list ts) v) (hz : sizeOk ts.length = true) : wpAny (BM B) A (call (.type "tuple") [v]) (PE B g σ s (.t (.tup ts)) σ) no s := by
  obtain ⟨a, ws, rfl, z, p, q⟩ := x
  have hl := q.length
  have hz := sizeOk_le hz
  refine tuple_of_list p.isList (line_ge (by omega)) ?_
  have e1 : ((s.heap.push (seqObj "list" #[] 0)).update s.heap.objs.size (Obj.mapSeq (· ++ ws.toArray))).objs.size = s.heap.objs.size + 1 := by rw [Heap.size_update, size_push']
  have k : ∀ a o, s.heap.get? a = some o → (((s.heap.push (seqObj "list" #[] 0)).update s.heap.objs.size (Obj.mapSeq (· ++ ws.toArray))).push { cls := .type "tuple", data := .seq ws.toArray }).get? a = some o := fun a o eo => by
    refine Heap.get?_push_of_some _ ?_
    rw [Heap.get?_update_ne _ _ _ _ (Nat.ne_of_lt (Heap.lt_size eo))]
    exact Heap.get?_push_of_some _ eo
  have e2 := size_push' (h := (s.heap.push (seqObj "list" #[] 0)).update s.heap.objs.size (Obj.mapSeq (· ++ ws.toArray))) (o := { cls := .type "tuple", data := .seq ws.toArray })
  rw [e1] at e2
  refine PE.grown I k (by rw [e2]; exact Nat.le_succ_of_le (Nat.le_succ _)) ⟨s.heap.objs.size + 1, ws, rfl, .inr ⟨Nat.le_succ _, by rw [e2]; exact Nat.lt_succ_self _⟩, ⟨0, ?_⟩, q.grown k⟩
  rw [← e1]
  exact Heap.get?_push_size _ rfl
set_option tactic.hygienic false in
theorem bi_list (I : Inv B g σ s.heap) {v : Value} (x : Rep B g.Z s.heap (.list ts) v) (hz : sizeOk ts.length = true) : wpAny (BM B) A (call (.type "list") [v]) (PE B g σ s (.own σ.length) (σ ++ [.list ts])) no s := by
  obtain ⟨a, ws, rfl, z, ⟨m, p⟩, q⟩ := x
  have hl := q.length
  have hz := sizeOk_le hz
  refine wpAny_size (call_list_seq (T := "list") a (.inl rfl) p rfl rfl (fun h' c' hk hD sz => ?_) (line_ge (by simp only [List.size_toArray]; omega)))
  exact PE.newList I hk sz (Nat.le_refl _) ⟨c', hD⟩ q
set_option tactic.hygienic false in
theorem bi_dict (I : Inv B g σ s.heap) {ks : List Key} {v : Value} (x : Rep B g.Z s.heap (.dict ks ts) v) (hz : sizeOk ks.length = true) : wpAny (BM B) A (call (.type "dict") [v]) (PE B g σ s (.own σ.length) (σ ++ [.dict ks ts])) no s := by
  obtain ⟨a, ws, rfl, z, ⟨hm, p⟩, q⟩ := x
  have hz := sizeOk_le hz
  have hm' : (s.heap.objs.size == sysModules) = false := by
    have := I.sm
    exact beq_eq_false_iff_ne.mpr fun w => by rw [w] at this; exact Nat.lt_irrefl _ this
  have keep : ∀ {h' : Heap}, Heap.SameBut s.heap.objs.size (s.heap.push { cls := .type "dict", data := .dict #[] }) h' → ∀ a o, s.heap.get? a = some o → h'.get? a = some o := fun hs a o eo =>
    (hs.2 a (Nat.ne_of_lt (Heap.lt_size eo))).trans (Heap.get?_push_of_some _ eo)
  have szs : ∀ {h' : Heap}, Heap.SameBut s.heap.objs.size (s.heap.push { cls := .type "dict", data := .dict #[] }) h' → s.heap.objs.size ≤ h'.objs.size := fun hs => by rw [hs.1, size_push']; exact Nat.le_add_right ..
  rcases p with ⟨kvs, p, rfl, rfl⟩ | ⟨kvs, p, rfl, rfl⟩
  · exact kt_call_dict hm p (line_ge (by simp at hz; omega)) fun h' hd' hs => PE.newDict I (keep hs) (szs hs) (Nat.le_refl _) ⟨hm', .inl ⟨kvs, hd', rfl, rfl⟩⟩ q
  · exact kt_call_dict hm p (line_ge (by simp at hz; omega)) fun h' hd' hs => PE.newDict I (keep hs) (szs hs) (Nat.le_refl _) ⟨hm', .inr ⟨kvs, hd', rfl, rfl⟩⟩ q
set_option tactic.hygienic false in
theorem bi1_ok (hd : A.handled = none) (I : Inv B g σ s.heap) {b : BI} {t : T} {v : Value} {ans : Ans} (x : Rep B g.Z s.heap t v) (e : bi1 b t = some ans) : wpAny (BM B) A (call (biV b) [v]) (PA B g σ s ans) no s := by
  induction b using BI.casesOn with
  | len => cases t with
    | list ts =>
      obtain ⟨hz, rfl⟩ := if_inv (show (if sizeOk ts.length then some (Ans.t (.int ts.length)) else none) = some ans from e)
      obtain ⟨a, ws, rfl, z, p, q⟩ := x
      exact lenL_ok I ⟨a, ws, rfl, p, q⟩ hz
    | str y =>
      obtain ⟨hz, rfl⟩ := if_inv (show (if strOk y then some (Ans.t (.int y.cps.toList.length)) else none) = some ans from e)
      obtain ⟨k, rfl⟩ := x
      exact lenS_ok I hz
    | _ => first | exact nn e | exact nf e | first | exact nn e | exact nf e | cases e
  | str => induction t using T.casesOn with
    | int m =>
      obtain ⟨hz, rfl⟩ := if_inv (show (if intOk m then some (Ans.t (.str (textInt m))) else none) = some ans from e)
      exact bi_str hd I x hz
    | _ => first | exact nn e | exact nf e | first | exact nn e | exact nf e | cases e
  | chr => induction t using T.casesOn with
    | int m =>
      obtain ⟨hz, rfl⟩ := if_inv (show (if decide (0 ≤ m) && decide (m < 128) then some (Ans.t (.str ⟨#[m.toNat]⟩)) else none) = some ans from e)
      exact bi_chr I x hz
    | _ => first | exact nn e | exact nf e | first | exact nn e | exact nf e | cases e
  | tuple => cases t with
    | list ts =>
      obtain ⟨hz, rfl⟩ := if_inv (show (if sizeOk ts.length then some (Ans.t (.tup ts)) else none) = some ans from e)
      exact bi_tuple I x hz
    | _ => first | exact nn e | exact nf e | first | exact nn e | exact nf e | cases e
  | list => cases t with
    | list ts =>
      obtain ⟨hz, rfl⟩ := if_inv (show (if sizeOk ts.length then some (Ans.new (.list ts)) else none) = some ans from e)
      exact bi_list I x hz
    | _ => first | exact nn e | exact nf e | first | exact nn e | exact nf e | cases e
  | bytes => induction t using T.casesOn with
    | bytes y =>
      first | exact nn e | exact nf e | first | exact nn e | exact nf e | cases e
      obtain ⟨k, rfl⟩ := x
      exact bytes_same _ _ (PE.rep I ⟨_, rfl⟩)
    | _ => first | exact nn e | exact nf e | first | exact nn e | exact nf e | cases e
  | dict => cases t with
    | list ts =>
      unfold bi1 at e
      dsimp only at e
      induction hl : pairsOf ts using Option.casesOn with
      | none => rw [hl] at e; first | exact nn e | exact nf e | first | exact nn e | exact nf e | cases e
      | some l =>
        rw [hl] at e
        dsimp only at e
        by_cases hz : sizeOk l.length = true
        · rw [if_pos hz] at e
          induction hp : dictOfPairs l ([], []) using Option.casesOn with
          | none => rw [hp] at e; first | exact nn e | exact nf e | first | exact nn e | exact nf e | cases e
          | some r => obtain ⟨ks, us⟩ := r; rw [hp] at e; cases e; exact dictPairs_ok hd I x hl hp
        · rw [if_neg hz] at e; first | exact nn e | exact nf e | first | exact nn e | exact nf e | cases e
    | dict ks ts =>
      obtain ⟨hz, rfl⟩ := if_inv (show (if sizeOk ks.length then some (Ans.new (.dict ks ts)) else none) = some ans from e)
      exact bi_dict I x hz
    | _ => first | exact nn e | exact nf e | first | exact nn e | exact nf e | cases e
  | sorted => cases t with
    | dict ks ts =>
      obtain ⟨hz, rfl⟩ := if_inv (show (if Nat.blt ks.length 64 then some (Ans.t (.list ((sortK ks).map keyT))) else none) = some ans from e)
      exact sorted_ok hd I x (Nat.blt_eq.mp hz)
    | _ => first | exact nn e | exact nf e | first | exact nn e | exact nf e | cases e
  | _ => first | exact nn e | exact nf e | first | exact nn e | exact nf e | cases e
set_option tactic.hygienic false in
theorem bi_ok (W : Facts B) (hd : A.handled = none) (I : Inv B g σ s.heap) {b : BI} {vs : List Value} {ans : Ans} (r : RepL B g.Z s.heap ts vs) (e : callBi b ts = some ans) :
    wpAny (BM B) A (call (biV b) vs) (PA B g σ s ans) no s := by
  induction ts using List.casesOn with
  | nil => first | exact nn e | exact nf e | first | exact nn e | exact nf e | cases e
  | cons t ts => induction ts using List.casesOn with
    | nil =>
      obtain ⟨v, rfl, x⟩ := one_arg r
      exact bi1_ok hd I x e
    | cons c ts => induction ts using List.casesOn with
      | cons _ _ => first | exact nn e | exact nf e | first | exact nn e | exact nf e | cases e
      | nil => cases b with
        | isinstance =>
          obtain ⟨v, w, rfl, h1, h2⟩ := two_args r
          have e : (isiT t c).map (fun b => Ans.t (.bool b)) = some ans := e
          induction q : isiT t c using Option.casesOn with
          | none => rw [q] at e; first | exact nn e | exact nf e | first | exact nn e | exact nf e | cases e
          | some b => rw [q] at e; cases e; exact isi_ok W I q h1 h2
        | _ => first | exact nn e | exact nf e | first | exact nn e | exact nf e | cases e
end
end Mine
end
section
set_option maxRecDepth 100000
set_option autoImplicit false
namespace Mine
open PySem PySem.W PyProof.Rows

section
variable {B : Base} {R : Rec} {n : Nat} {g g' : Gh} {σ σ' σ₁ σ₂ : Sg} {A : Around} {s s₁ s₂ : Shared} {env : Env} {cx : Cx} {Γ Γ' : Ga} {lo hi : Nat} {ts us : List T} {it : Value} {h h' : Heap} {fl : Fl} {C D d : Addr}

/-- arguments that are no starred ones -/
theorem evs_star {pos : Pos} : ∀ (es : List Expr) {σ : Sg} {as : List AV} {σ' : Sg}, evs R cx Γ σ es = some (as, σ') → (backTo pos (starEach es env)).all (fun x => !x.1) = true := by
  intro es
  induction es with
  | nil => intro _ _ _ _; rfl
  | cons e r ih =>
    intro σ as σ' q
    unfold evs at q
    split at q
    · rename_i hs
      split at q
      · rename_i a σ₁ q1
        split at q
        · rename_i as' σ₂ q2
          have he : starEach (e :: r) env = (false, eval e env) :: starEach r env := by cases e <;> first | rfl | first | exact nn hs | exact nf hs | cases hs
          rw [he]
          show (!false && (backTo pos (starEach r env)).all (fun x => !x.1)) = true
          rw [ih q2]; rfl
        · first | exact nn q | exact nf q | first | exact nn q | exact nf q | cases q
      · first | exact nn q | exact nf q | first | exact nn q | exact nf q | cases q
    · first | exact nn q | exact nf q | first | exact nn q | exact nf q | cases q

set_option tactic.hygienic false in
theorem methCall_gen {o : Expr} {name : Str} {ap p : Pos} {args : List Expr} {Q : Value → Shared → Prop} (hp : plainBase o = true) (hl : Nat.beq ap.endLine p.line = true) (hn : args.length < 25) (hst : (backTo p (starEach args env)).all (fun x => !x.1) = true)
    (h : wpAny (BM B) A (eval o env) (fun ov s₁ => ∀ pl, wpAny (BM B) A (getMethod ov name pl) (fun fx s₂ => wpAny (BM B) A (callWith p fx.1 fx.2 (backTo p (starEach args env)) []) Q no s₂) no s₁) no s) :
    wpAny (BM B) A (eval (.Call (.Attribute o name ap) args [] p) env) Q no s := by
  rw [arm_eval_Call, plainBase_eq hp]
  refine wpAny_bind (wpAny_mono h (fun ov s₁ h₁ => ?_) fun _ _ y => y)
  refine wpAny_bind (wpAny_standAt ?_)
  have hform : methodCallForm (args.length + ([] : List Keyword).length) (backTo p (starEach args env)) (backToKw p (keywordEach [] env)) = true := by
    unfold methodCallForm
    rw [hst]
    show (true && true && decide (args.length + 0 + 0 < 30)) = true
    simp; omega
  have hpos : methodCallPos true o env ap p = pure p := by
    unfold methodCallPos
    have : (ap.endLine == p.line) = true := by rw [beq_iff_eq]; exact Nat.eq_of_beq_eq_true hl
    rw [this]; rfl
  unfold methodCall
  rw [hform]
  refine wpAny_bind (wpAny_holding ?_)
  unfold calleeOf
  rw [if_pos rfl]
  refine wpAny_mono (h₁ _) (fun fx s₂ h₂ => ?_) fun _ _ y => y
  obtain ⟨f, first⟩ := fx
  exact wpAny_bind (wpAny_of_eq hpos h₂)

/-- the methods of built-ins -/
noncomputable def idOf (n : Str) : String := if sEq n "append" then "list.append" else if sEq n "extend" then "list.extend" else if sEq n "pop" then "list.pop" else if sEq n "get" then "dict.get" else if sEq n "join" then "str.join" else "bytes.startswith"

set_option tactic.hygienic false in
theorem id_append : idOf "append" = "list.append" := by decide +kernel
set_option tactic.hygienic false in
theorem id_extend : idOf "extend" = "list.extend" := by decide +kernel
set_option tactic.hygienic false in
theorem id_pop : idOf "pop" = "list.pop" := by decide +kernel
set_option tactic.hygienic false in
theorem id_get : idOf "get" = "dict.get" := by decide +kernel
set_option tactic.hygienic false in
theorem id_join : idOf "join" = "str.join" := by decide +kernel
set_option tactic.hygienic false in
theorem id_startswith : idOf "startswith" = "bytes.startswith" := by decide +kernel
theorem getM_ok (I : Inv B g σ s.heap) {a : AV} {v : Value} (av : AVal B g s.heap σ a v) {name : Str} (hk : mkOk name (mkOf σ a) = true) {pl : Sem Bool} {Q : Value × List Value → Shared → Prop} (hQ : Q (.builtin (idOf name), [v]) s) : wpAny (BM B) A (getMethod v name pl) Q no s := by
  have lst : ∀ {x : Addr} {vs : Array Value}, s.heap.PlainList x vs → v = .ref x → (sEq name "append" || sEq name "extend" || sEq name "pop") = true → wpAny (BM B) A (getMethod v name pl) Q no s := by
    rintro x vs ⟨m, p⟩ rfl hn
    have hd : ∀ a, Value.ref x = .ref a → ∃ o, s.heap.get? a = some o ∧ o.dict = none := fun a e => by cases e; exact ⟨_, p, rfl⟩
    rw [Bool.or_eq_true, Bool.or_eq_true] at hn
    rcases hn with (hn | hn) | hn
    · have e := (sEq_iff _ _).mp hn; subst e
      rw [id_append] at hQ
      exact getMethod_builtin (T := "list") (id := "list.append") ⟨_, p, rfl⟩ PySem.F.plainAttrs_list PySem.F.slot_list_append PySem.F.type_list_append hd hQ
    · have e := (sEq_iff _ _).mp hn; subst e
      rw [id_extend] at hQ
      exact getMethod_builtin (T := "list") (id := "list.extend") ⟨_, p, rfl⟩ PySem.F.plainAttrs_list PySem.F.slot_list_extend PySem.F.type_list_extend hd hQ
    · have e := (sEq_iff _ _).mp hn; subst e
      rw [id_pop] at hQ
      exact getMethod_builtin (T := "list") (id := "list.pop") ⟨_, p, rfl⟩ PySem.F.plainAttrs_list PySem.F.slot_list_pop PySem.F.type_list_pop hd hQ
  have dct : ∀ {x : Addr} {ks : List Key} {vs : List Value}, DictIs B s.heap x ks vs → v = .ref x → sEq name "get" = true → wpAny (BM B) A (getMethod v name pl) Q no s := by
    rintro x ks vs ⟨m, p⟩ rfl hn
    have e := (sEq_iff _ _).mp hn; subst e
    rw [id_get] at hQ
    rcases p with ⟨kvs, p, _⟩ | ⟨kvs, p, _⟩
    · exact getMethod_builtin (T := "dict") (id := "dict.get") p.typeIs PySem.F.plainAttrs_dict PySem.F.slot_dict_get PySem.F.type_dict_get p.mapOf.noDict hQ
    · exact getMethod_builtin (T := "dict") (id := "dict.get") p.typeIs PySem.F.plainAttrs_dict PySem.F.slot_dict_get PySem.F.type_dict_get p.mapOf.noDict hQ
  have tree : ∀ {t : T}, Rep B g.Z s.heap t v → mkOk name (mkT t) = true → wpAny (BM B) A (getMethod v name pl) Q no s := by
    intro t r hk
    induction t using T.casesOn with
    | list ts => obtain ⟨x, vs, e, z, p, q⟩ := r; exact lst p e hk
    | dict ks ts => obtain ⟨x, vs, e, z, p, q⟩ := r; exact dct p e hk
    | str x =>
      obtain ⟨k, rfl⟩ := r
      have e := (sEq_iff _ _).mp hk; subst e
      rw [id_join] at hQ
      refine getMethod_builtin (T := "str") (id := "str.join") ?_ ?_ ?_ ?_ ?_ ?_
      · exact typeIs_str s _ _
      · exact PySem.F.plainAttrs_str
      · exact PySem.F.slot_str_join
      · exact PySem.F.type_str_join
      · exact fun a e => by cases e
      · exact hQ
    | bytes b =>
      obtain ⟨k, rfl⟩ := r
      have e := (sEq_iff _ _).mp hk; subst e
      rw [id_startswith] at hQ
      refine getMethod_builtin (T := "bytes") (id := "bytes.startswith") ?_ ?_ ?_ ?_ ?_ ?_
      · exact typeIs_bytes s _ _
      · exact FB.plainAttrs_bytes
      · exact FB.slot_bytes_startswith
      · exact FB.type_bytes_startswith
      · exact fun a e => by cases e
      · exact hQ
    | _ => cases hk
  induction a using AV.casesOn with
  | t t => exact tree av hk
  | own i =>
    obtain ⟨hi, e⟩ := av
    unfold mkOf at hk
    dsimp only at hk
    split at hk
    · rename_i ts q
      simp only [mkOk] at hk
      obtain ⟨vs, p, r⟩ := I.obj i _ q
      exact lst p e hk
    · rename_i ks ts q
      simp only [mkOk] at hk
      obtain ⟨vs, p, r⟩ := I.obj i _ q
      exact dct p e hk
    · rename_i t q
      have r : Rep B g.Z s.heap t (.ref (g.r i)) := I.obj i _ q
      exact tree (e ▸ r) hk
    · simp only [mkOk] at hk; cases hk
end
end Mine
end
section
set_option maxRecDepth 100000
set_option autoImplicit false
namespace Mine
open PySem PySem.W PyProof.Rows

section
variable {B : Base} {R : Rec} {n : Nat} {g g' : Gh} {σ σ' σ₁ σ₂ : Sg} {A : Around} {s s₁ s₂ : Shared} {env : Env} {cx : Cx} {Γ Γ' : Ga} {lo hi : Nat} {ts us : List T} {it : Value} {h h' : Heap} {fl : Fl} {C D d : Addr}

set_option tactic.hygienic false in
theorem one_av {a : AV} {vs : List Value} (r : AVals B g h σ [a] vs) : ∃ v, vs = [v] ∧ AVal B g h σ a v := by
  obtain ⟨v, r', rfl, x, y⟩ := r
  rw [show r' = [] from y]
  exact ⟨v, rfl, x⟩
set_option tactic.hygienic false in
theorem two_av {a b : AV} {vs : List Value} (r : AVals B g h σ [a, b] vs) : ∃ v w, vs = [v, w] ∧ AVal B g h σ a v ∧ AVal B g h σ b w := by
  obtain ⟨v, r', rfl, x, w, r'', rfl, y, z⟩ := r
  rw [show r'' = [] from z]
  exact ⟨v, w, rfl, x, y⟩
set_option tactic.hygienic false in
theorem isPrefixL_eq : ∀ (x y : List UInt8), isPrefixL (x.map (·.toNat)) (y.map (·.toNat)) = decide (x <+: y)
  | [], y => by simp [isPrefixL]
  | a :: x, [] => by simp [isPrefixL]
  | a :: x, b :: y => by
    show (Nat.beq a.toNat b.toNat && isPrefixL _ _) = _
    rw [isPrefixL_eq x y]
    by_cases e : a = b
    · subst e
      simp [List.cons_prefix_cons]
    · have : Nat.beq a.toNat b.toNat = false := by
        cases q : Nat.beq a.toNat b.toNat with
        | false => rfl
        | true => exact absurd (UInt8.toNat_inj.mp (Nat.eq_of_beq_eq_true q)) e
      rw [this]
      simp [List.cons_prefix_cons, e]
set_option tactic.hygienic false in
theorem starts_eq (a b : List UInt8) : (if (a.toArray.size : Int) < (b.toArray.size : Int) then false else a.toArray.extract 0 (0 + b.toArray.size) == b.toArray) = isPrefixL (b.map (·.toNat)) (a.map (·.toNat)) := by
  rw [isPrefixL_eq]
  by_cases h : (a.toArray.size : Int) < (b.toArray.size : Int)
  · rw [if_pos h]
    symm
    rw [decide_eq_false_iff_not]
    intro p
    have := p.length_le
    simp at h
    omega
  · rw [if_neg h]
    have e : a.toArray.extract 0 (0 + b.toArray.size) = (a.take b.length).toArray := by simp
    rw [e]
    rw [Bool.eq_iff_iff, beq_iff_eq, decide_eq_true_iff, List.prefix_iff_eq_take]
    constructor
    · intro q; have := congrArg Array.toList q; simpa using this.symm
    · intro q; rw [← q]
theorem joinS_eq (sep : Str) : ∀ l : List Str, joinS sep l = Str.join sep l
  | [] => rfl
  | [x] => rfl
  | x :: y :: r => by
    show catS (catS x sep) (joinS sep (y :: r)) = x ++ sep ++ Str.join sep (y :: r)
    rw [joinS_eq sep (y :: r)]; rfl
set_option tactic.hygienic false in
theorem sum_short : ∀ (l : List Str), l.all shortS = true → (l.map (·.length)).sum ≤ l.length * 1000
  | [], _ => Nat.zero_le _
  | x :: r, h => by
    rw [List.all_cons, Bool.and_eq_true] at h
    have h1 : x.cps.toList.length ≤ 1000 := Nat.le_of_ble_eq_true h.1
    have e : x.length = x.cps.toList.length := by show x.cps.size = _; simp
    have := sum_short r h.2
    rw [List.map_cons, List.sum_cons, List.length_cons]
    omega

set_option tactic.hygienic false in
theorem append_ok (I : Inv B g σ s.heap) {a : AV} {v : Value} (av : AVal B g s.heap σ a v) {as : List AV} {vs : List Value} (avs : AVals B g s.heap σ as vs) {r : AV} (e : appendM σ a as = some (r, σ')) :
    wpAny (BM B) A (call (.builtin (idOf (Str.ofString "append"))) (v :: vs)) (PE B g σ s r σ') no s := by
  rw [id_append]
  induction a using AV.casesOn with
  | t => first | exact nn e | exact nf e | first | exact nn e | exact nf e | cases e
  | own i => induction as using List.casesOn with
    | nil => first | exact nn e | exact nf e | first | exact nn e | exact nf e | cases e
    | cons x as => induction as using List.casesOn with
      | cons _ _ => first | exact nn e | exact nf e | first | exact nn e | exact nf e | cases e
      | nil =>
        unfold appendM at e
        dsimp only at e
        cases e1 : frz σ x with
        | none => rw [e1] at e; first | exact nn e | exact nf e | first | exact nn e | exact nf e | cases e
        | some p =>
          obtain ⟨t, σ₁⟩ := p
          rw [e1] at e
          dsimp only at e
          cases q : σ₁[i]? with
          | none => rw [q] at e; first | exact nn e | exact nf e | first | exact nn e | exact nf e | cases e
          | some o =>
            rw [q] at e
            cases o with
            | list ts =>
              obtain ⟨hz, h⟩ := if_inv (show (if sizeOk ts.length then some (AV.t .none, σ₁.set i (.list (ts ++ [t]))) else none) = some (r, σ') from e)
              first | exact nn h | exact nf h | first | exact nn h | exact nf h | cases h
              obtain ⟨u, rfl, au⟩ := one_av avs
              obtain ⟨g₁, I₁, x₁, rt⟩ := frz_ok I au e1
              obtain ⟨hi, rfl⟩ := x₁.aval av
              obtain ⟨ws, p, q'⟩ := I₁.obj i _ q
              have hl := q'.length
              have hz := sizeOk_le hz
              refine wpAny_list_append_plain p (fun h' p' hs => ?_) (line_ge (by simp only [List.size_toArray]; omega))
              have p'' : h'.PlainList (g₁.r i) (ws ++ [u]).toArray := by
                have : (ws ++ [u]).toArray = ws.toArray.push u := by simp
                rw [this]; exact p'
              obtain ⟨I₂, x₂⟩ := I₁.setList q hs p'' (q'.snoc rt)
              exact ⟨g₁, x₁.trans I I₁ x₂, I₂, rfl, rfl, rfl, rfl⟩
            | _ => first | exact nn e | exact nf e | first | exact nn e | exact nf e | cases e
set_option tactic.hygienic false in
theorem extend_ok (I : Inv B g σ s.heap) {a : AV} {v : Value} (av : AVal B g s.heap σ a v) {as : List AV} {vs : List Value} (avs : AVals B g s.heap σ as vs) {r : AV} (e : extendM σ a as = some (r, σ')) :
    wpAny (BM B) A (call (.builtin (idOf (Str.ofString "extend"))) (v :: vs)) (PE B g σ s r σ') no s := by
  rw [id_extend]
  induction a using AV.casesOn with
  | t => first | exact nn e | exact nf e | first | exact nn e | exact nf e | cases e
  | own i => induction as using List.casesOn with
    | nil => first | exact nn e | exact nf e | first | exact nn e | exact nf e | cases e
    | cons x as => induction as using List.casesOn with
      | cons _ _ => first | exact nn e | exact nf e | first | exact nn e | exact nf e | cases e
      | nil =>
        unfold extendM at e
        dsimp only at e
        cases e1 : frz σ x with
        | none => rw [e1] at e; first | exact nn e | exact nf e | first | exact nn e | exact nf e | cases e
        | some p =>
          obtain ⟨t, σ₁⟩ := p
          rw [e1] at e
          cases t with
          | list us =>
            dsimp only at e
            cases q : σ₁[i]? with
            | none => rw [q] at e; first | exact nn e | exact nf e | first | exact nn e | exact nf e | cases e
            | some o =>
              rw [q] at e
              cases o with
              | list ts =>
                obtain ⟨hz, h⟩ := if_inv (show (if sizeOk (ts.length + us.length) then some (AV.t .none, σ₁.set i (.list (ts ++ us))) else none) = some (r, σ') from e)
                first | exact nn h | exact nf h | first | exact nn h | exact nf h | cases h
                obtain ⟨u, rfl, au⟩ := one_av avs
                obtain ⟨g₁, I₁, x₁, ⟨b, ws2, rfl, z, ⟨n2, p2⟩, q2⟩⟩ := frz_ok I au e1
                obtain ⟨hi, rfl⟩ := x₁.aval av
                obtain ⟨ws, ⟨n1, p⟩, q'⟩ := I₁.obj i _ q
                have hl := q'.length
                have hl2 := q2.length
                have hz := sizeOk_le hz
                have hsz : ws.toArray.size + ws2.toArray.size ≤ sizeLine := line_ge (by simp only [List.size_toArray]; omega)
                refine call_meets PySem.F.slot_list_extend ⟨_, p, rfl⟩ PySem.F.entry_list_extend (PySem.F.args_list_extend_2 _ _) (AutoSeq1.list_extend_list_list_0 (g₁.r i) ws.toArray n1 b ws2.toArray n2 (extend_door hsz) (Nat.le_trans (Nat.le_add_right _ _) hsz) (Nat.le_succ_of_le hsz)) ⟨p, p2, ?_⟩
                have e3 : ws.toArray ++ ws2.toArray = (ws ++ ws2).toArray := by simp
                have p'' : (s.heap.update (g₁.r i) (Obj.mapSeq fun x => x ++ ws2.toArray)).PlainList (g₁.r i) (ws ++ ws2).toArray :=
                  ⟨_, by rw [Heap.get?_update_self _ p (by rw [mapSeq_app]; rfl), mapSeq_app, e3]⟩
                obtain ⟨I₂, x₂⟩ := I₁.setList q (Heap.SameBut.update ..) p'' (q'.append q2)
                exact ⟨g₁, x₁.trans I I₁ x₂, I₂, rfl, rfl, rfl, rfl⟩
              | _ => first | exact nn e | exact nf e | first | exact nn e | exact nf e | cases e
          | _ => first | exact nn e | exact nf e | first | exact nn e | exact nf e | cases e
set_option tactic.hygienic false in
theorem pop_ok (I : Inv B g σ s.heap) {a : AV} {v : Value} (av : AVal B g s.heap σ a v) {as : List AV} {vs : List Value} (avs : AVals B g s.heap σ as vs) {r : AV} (e : popM σ a as = some (r, σ')) :
    wpAny (BM B) A (call (.builtin (idOf (Str.ofString "pop"))) (v :: vs)) (PE B g σ s r σ') no s := by
  rw [id_pop]
  induction a using AV.casesOn with
  | t => first | exact nn e | exact nf e | first | exact nn e | exact nf e | cases e
  | own i => induction as using List.casesOn with
    | cons _ _ => first | exact nn e | exact nf e | first | exact nn e | exact nf e | cases e
    | nil =>
      unfold popM at e
      dsimp only at e
      cases q : σ[i]? with
      | none => rw [q] at e; first | exact nn e | exact nf e | first | exact nn e | exact nf e | cases e
      | some o =>
        rw [q] at e
        cases o with
        | list ts =>
          dsimp only at e
          cases ht : ts.getLast? with
          | none => rw [ht] at e; first | exact nn e | exact nf e | first | exact nn e | exact nf e | cases e
          | some t =>
            rw [ht] at e
            obtain ⟨hz, h⟩ := if_inv (show (if sizeOk ts.length then some (AV.t t, σ.set i (.list ts.dropLast)) else none) = some (r, σ') from e)
            first | exact nn h | exact nf h | first | exact nn h | exact nf h | cases h
            have : vs = [] := avs
            subst this
            obtain ⟨hi, rfl⟩ := av
            obtain ⟨ws, ⟨n1, p⟩, q'⟩ := I.obj i _ q
            have hl := q'.length
            have hz := sizeOk_le hz
            rw [List.getLast?_eq_getElem?] at ht
            obtain ⟨w, hw, rw'⟩ := q'.get ht
            refine Copied.pop_at p (y := w) (by simp only [List.size_toArray, List.getElem?_toArray]; rw [hl]; exact hw) (fun h' hs p' => ?_) (line_ge (by simp only [List.size_toArray]; omega))
            have p'' : h'.PlainList (g.r i) ws.dropLast.toArray := ⟨n1 + 1, by rw [p']; simp⟩
            have q3 : RepL B g.Z s.heap ts.dropLast ws.dropLast := by
              rw [List.dropLast_eq_take, List.dropLast_eq_take, hl]
              exact q'.take _
            obtain ⟨I₂, x₂⟩ := I.setList q hs p'' q3
            exact ⟨g, x₂, I₂, x₂.rep rw', rfl, rfl, rfl⟩
        | _ => first | exact nn e | exact nf e | first | exact nn e | exact nf e | cases e
/-  a dict asked, with a default or without -/
set_option tactic.hygienic false in
theorem ask_ok (I : Inv B g σ s.heap) {a : AV} {v : Value} (av : AVal B g s.heap σ a v) {ks : List Key} {ts : List T} {kt : T} {key : Key} {o : Option T} {kv dv : Value} {dflt r : AV} (hl : look σ a = some (.dict ks ts)) (hk : keyOf kt = some key) (hr : lkD key ks ts = some o) (ak : Rep B g.Z s.heap kt kv) (ad : AVal B g s.heap σ dflt dv) (h : r = (match o with
      | some t => .t t
      | none => dflt)) : wpAny (BM B) A (call (.builtin "dict.get") [v, kv, dv]) (PE B g σ s r σ) no s := by
  obtain ⟨ok, e2⟩ := lkD_some hr
  obtain ⟨d, ws, rfl, p, q⟩ := look_ok I av hl
  obtain ⟨K, _, knd, k', kvs, h1, h2, h3⟩ := ask_dict p ok (keyOf_is hk ak)
  refine call_meetsIn PySem.F.slot_dict_get h2.typeIs PySem.F.entry_dict_get (PySem.F.args_dict_get_3 _ _ _) (meets_dict_get_default knd d h1 p.1 dv) ⟨_, h2.mapOf, ?_⟩
  rw [h3]
  subst h
  induction o using Option.casesOn with
  | none => rw [(lkK_rep key q).2 e2]; exact PE.here I ad rfl ⟨rfl, rfl, rfl⟩
  | some t => obtain ⟨w, hw, rw'⟩ := (lkK_rep key q).1 t e2; rw [hw]; exact PE.rep I rw'
set_option tactic.hygienic false in
theorem get_ok (I : Inv B g σ s.heap) {a : AV} {v : Value} (av : AVal B g s.heap σ a v) {as : List AV} {vs : List Value} (avs : AVals B g s.heap σ as vs) {r : AV} (e : getM σ a as = some (r, σ')) :
    wpAny (BM B) A (call (.builtin (idOf (Str.ofString "get"))) (v :: vs)) (PE B g σ s r σ') no s := by
  rw [id_get]
  unfold getM at e
  cases hlk : look σ a with
  | none => rw [hlk] at e; first | exact nn e | exact nf e | first | exact nn e | exact nf e | cases e
  | some t =>
    rw [hlk] at e
    cases t with
    | dict ks ts => induction as using List.casesOn with
      | nil => first | exact nn e | exact nf e | first | exact nn e | exact nf e | cases e
      | cons x as => induction x using AV.casesOn with
        | own => induction as using List.casesOn with
          | nil => first | exact nn e | exact nf e | first | exact nn e | exact nf e | cases e
          | cons _ as => cases as <;> first | exact nn e | exact nf e | first | exact nn e | exact nf e | cases e
        | t k => induction as using List.casesOn with
          | nil =>
            dsimp only at e
            cases hk : keyOf k with
            | none => rw [hk] at e; first | exact nn e | exact nf e | first | exact nn e | exact nf e | cases e
            | some key =>
              rw [hk] at e
              dsimp only at e
              cases hr : lkD key ks ts with
              | none => rw [hr] at e; first | exact nn e | exact nf e | first | exact nn e | exact nf e | cases e
              | some o =>
                rw [hr] at e
                first | exact nn e | exact nf e | first | exact nn e | exact nf e | cases e
                obtain ⟨kv, rfl, ak⟩ := one_av avs
                obtain ⟨ok, e2⟩ := lkD_some hr
                obtain ⟨d, ws, rfl, p, q⟩ := look_ok I av hlk
                obtain ⟨K, _, knd, k', kvs, h1, h2, h3⟩ := ask_dict p ok (keyOf_is hk ak)
                refine call_meetsIn PySem.F.slot_dict_get h2.typeIs PySem.F.entry_dict_get (PySem.F.args_dict_get_2 _ _) (meets_dict_get knd d h1 p.1) ⟨_, h2.mapOf, ?_⟩
                rw [h3]
                induction o using Option.casesOn with
                | none => rw [(lkK_rep key q).2 e2]; exact PE.rep I rfl
                | some t => obtain ⟨w, hw, rw'⟩ := (lkK_rep key q).1 t e2; rw [hw]; exact PE.rep I rw'
          | cons dflt as => induction as using List.casesOn with
            | cons _ _ => first | exact nn e | exact nf e | first | exact nn e | exact nf e | cases e
            | nil =>
              dsimp only at e
              cases hk : keyOf k with
              | none => rw [hk] at e; first | exact nn e | exact nf e | first | exact nn e | exact nf e | cases e
              | some key =>
                rw [hk] at e
                dsimp only at e
                cases hr : lkD key ks ts with
                | none => rw [hr] at e; first | exact nn e | exact nf e | first | exact nn e | exact nf e | cases e
                | some o =>
                  rw [hr] at e
                  obtain ⟨kv, dv, rfl, ak, ad⟩ := two_av avs
                  induction o using Option.casesOn with
                  | none => cases e; exact ask_ok I av hlk hk hr ak ad rfl
                  | some t => cases e; exact ask_ok I av hlk hk hr ak ad rfl
    | _ => first | exact nn e | exact nf e | first | exact nn e | exact nf e | cases e
set_option tactic.hygienic false in
theorem join_inv {a : AV} {as : List AV} {r : AV} (e : joinM σ a as = some (r, σ')) : ∃ x u ts l, a = .t (.str x) ∧ as = [u] ∧ look σ u = some (.list ts) ∧ strsOf ts = some l ∧ (sizeOk l.length && l.all shortS && Nat.ble x.cps.toList.length 16) = true ∧ r = .t (.str (joinS x l)) ∧ σ' = σ := by
  induction a using AV.casesOn with
  | own => first | exact nn e | exact nf e | first | exact nn e | exact nf e | cases e
  | t x => cases x with
    | str x => induction as using List.casesOn with
      | nil => first | exact nn e | exact nf e | first | exact nn e | exact nf e | cases e
      | cons u as => induction as using List.casesOn with
        | cons _ _ => first | exact nn e | exact nf e | first | exact nn e | exact nf e | cases e
        | nil =>
          unfold joinM at e
          dsimp only at e
          cases hlk : look σ u with
          | none => rw [hlk] at e; first | exact nn e | exact nf e | first | exact nn e | exact nf e | cases e
          | some t =>
            rw [hlk] at e
            cases t with
            | list ts =>
              dsimp only at e
              cases hs : strsOf ts with
              | none => rw [hs] at e; first | exact nn e | exact nf e | first | exact nn e | exact nf e | cases e
              | some l =>
                rw [hs] at e
                obtain ⟨hz, h⟩ := if_inv (show (if sizeOk l.length && l.all shortS && Nat.ble x.cps.toList.length 16 then some (AV.t (.str (joinS x l)), σ) else none) = some (r, σ') from e)
                first | exact nn h | exact nf h | first | exact nn h | exact nf h | cases h
                exact ⟨x, u, ts, l, rfl, rfl, hlk, hs, hz, rfl, rfl⟩
            | _ => first | exact nn e | exact nf e | first | exact nn e | exact nf e | cases e
    | _ => first | exact nn e | exact nf e | first | exact nn e | exact nf e | cases e
set_option tactic.hygienic false in
theorem joinM_ok (I : Inv B g σ s.heap) {a : AV} {v : Value} (av : AVal B g s.heap σ a v) {as : List AV} {vs : List Value} (avs : AVals B g s.heap σ as vs) {r : AV} (e : joinM σ a as = some (r, σ')) :
    wpAny (BM B) A (call (.builtin (idOf (Str.ofString "join"))) (v :: vs)) (PE B g σ s r σ') no s := by
  rw [id_join]
  obtain ⟨x, u, ts, l, rfl, rfl, hlk, hs, hz, rfl, rfl⟩ := join_inv e
  obtain ⟨w, rfl, aw⟩ := one_av avs
  obtain ⟨k, rfl⟩ := av
  obtain ⟨d, ws, rfl, p, q⟩ := look_ok I aw hlk
  rw [Bool.and_eq_true, Bool.and_eq_true] at hz
  have z1 := sizeOk_le hz.1.1
  have z2 := sum_short l hz.1.2
  have z3 : x.cps.toList.length ≤ 16 := Nat.le_of_ble_eq_true hz.2
  have ex : x.length = x.cps.toList.length := by show x.cps.size = _; simp
  have hS := strs_of q hs
  rw [joinS_eq]
  have z4 : l.length * x.length ≤ 1000 * 16 := Nat.mul_le_mul z1 (by rw [ex]; exact z3)
  clear hS e z3 ex
  have hS := strs_of q hs
  refine join_list (ys := l) p.isList (by simpa using hS) (by omega) fun t' k' => ?_
  have ej : Txt.join x l = Str.join x l := StrLaws.glued_eq_join x l
  rw [ej]
  exact PE.rep I ⟨_, rfl⟩
set_option tactic.hygienic false in
theorem startswith_ok (I : Inv B g σ s.heap) {a : AV} {v : Value} (av : AVal B g s.heap σ a v) {as : List AV} {vs : List Value} (avs : AVals B g s.heap σ as vs) {r : AV} (e : startswithM σ a as = some (r, σ')) :
    wpAny (BM B) A (call (.builtin (idOf (Str.ofString "startswith"))) (v :: vs)) (PE B g σ s r σ') no s := by
  rw [id_startswith]
  induction a using AV.casesOn with
  | own => first | exact nn e | exact nf e | first | exact nn e | exact nf e | cases e
  | t x => induction x using T.casesOn with
    | bytes a => induction as using List.casesOn with
      | nil => first | exact nn e | exact nf e | first | exact nn e | exact nf e | cases e
      | cons y as => induction y using AV.casesOn with
        | own => cases as <;> first | exact nn e | exact nf e | first | exact nn e | exact nf e | cases e
        | t y => induction y using T.casesOn with
          | bytes b => induction as using List.casesOn with
            | cons _ _ => first | exact nn e | exact nf e | first | exact nn e | exact nf e | cases e
            | nil =>
              first | exact nn e | exact nf e | first | exact nn e | exact nf e | cases e
              obtain ⟨w, rfl, k2, rfl⟩ := one_av avs
              obtain ⟨k, rfl⟩ := av
              refine call_meets FB.slot_bytes_startswith (typeIs_bytes s _ _) FB.entry_bytes_startswith (FB.args_bytes_startswith_2 _ _) (meets_startswith a.toArray b.toArray k k2) ?_
              rw [starts_eq]
              exact PE.rep I rfl
          | _ => cases as <;> first | exact nn e | exact nf e | first | exact nn e | exact nf e | cases e
    | _ => first | exact nn e | exact nf e | first | exact nn e | exact nf e | cases e
set_option tactic.hygienic false in
theorem callM_ok (hd : A.handled = none) (I : Inv B g σ s.heap) {a : AV} {v : Value} (av : AVal B g s.heap σ a v) {as : List AV} {vs : List Value} (avs : AVals B g s.heap σ as vs) {name : Str} {r : AV} (e : callM σ a name as = some (r, σ')) :
    wpAny (BM B) A (call (.builtin (idOf name)) (v :: vs)) (PE B g σ s r σ') no s := by
  unfold callM at e
  by_cases h1 : sEq name (Str.ofString "append") = true
  · rw [if_pos h1] at e
    rw [(sEq_iff _ _).mp h1]; exact append_ok I av avs e
  rw [if_neg h1] at e
  by_cases h2 : sEq name (Str.ofString "extend") = true
  · rw [if_pos h2] at e
    rw [(sEq_iff _ _).mp h2]; exact extend_ok I av avs e
  rw [if_neg h2] at e
  by_cases h3 : sEq name (Str.ofString "pop") = true
  · rw [if_pos h3] at e
    rw [(sEq_iff _ _).mp h3]; exact pop_ok I av avs e
  rw [if_neg h3] at e
  by_cases h4 : sEq name (Str.ofString "get") = true
  · rw [if_pos h4] at e
    rw [(sEq_iff _ _).mp h4]; exact get_ok I av avs e
  rw [if_neg h4] at e
  by_cases h5 : sEq name (Str.ofString "join") = true
  · rw [if_pos h5] at e
    rw [(sEq_iff _ _).mp h5]; exact joinM_ok I av avs e
  rw [if_neg h5] at e
  by_cases h6 : sEq name (Str.ofString "startswith") = true
  · rw [if_pos h6] at e
    rw [(sEq_iff _ _).mp h6]; exact startswith_ok I av avs e
  rw [if_neg h6] at e
  first | exact nn e | exact nf e | first | exact nn e | exact nf e | cases e
end
end Mine
end
section
set_option maxRecDepth 100000
set_option autoImplicit false
namespace Mine
open PySem PySem.W PyProof.Rows

theorem Bnd.mono {A : Around} {n : Nat} (b : Bnd A (n + 1)) : Bnd A n := ⟨by have := b.depth; omega, by have := b.units; omega, b.hd⟩

section
variable {B : Base} {R : Rec} {n : Nat} {g g' : Gh} {σ σ' σ₁ σ₂ : Sg} {A : Around} {s s₁ s₂ : Shared} {env : Env} {cx : Cx} {Γ Γ' : Ga} {lo hi : Nat} {ts us : List T} {it : Value} {h h' : Heap} {fl : Fl} {C D d : Addr}

/-  the own objects forgotten -/
set_option tactic.hygienic false in
theorem Inv.bare (I : Inv B g σ h) : Inv B g [] h where
  sm := I.sm
  stays := I.stays
  zbase := I.zbase
  zlt := I.zlt
  obj i o e := by simp at e
  inj i j a x _ := by simp [OwnA] at x
  nz i a x := by simp [OwnA] at x
theorem bare_owned {a : Addr} : ¬ Owned g [] a := fun ⟨i, x⟩ => by simp [OwnA] at x

theorem pure_ok (S : Snd B R n) (hb : Bnd A n) (I : Inv B g σ s.heap) {f : FN} {vs : List Value} {t : T} (r : RepL B g.Z s.heap ts vs) (e : callT R f ts = some t) :
    codeAny (BM B) A (.call (.ref (B.fa f)) ⟨vs, []⟩) (PC B g σ s (.t t) σ) s := by
  unfold callT at e
  split at e
  · rename_i v σ₁ e1
    split at e
    · rename_i t' σ₂ e2
      first | exact nn e | exact nf e | first | exact nn e | exact nf e | cases e
      refine codeAny_mono (S.c _ _ _ _ _ e1 A g s vs hb I.bare (AVals.ofL r)) fun q s₁ hq => ?_
      cases q with
      | error x => exact hq.elim
      | ok fl =>
        cases fl with
        | ret w =>
          obtain ⟨g₁, x₁, I₁, av, r₁⟩ := hq
          obtain ⟨g₂, I₂, x₂, rt⟩ := frz_ok I₁ av e2
          have x := x₁.trans I.bare I₁ x₂
          have k : ∀ a o, s.heap.get? a = some o → s₁.heap.get? a = some o := fun a o eo => x.keep a o eo bare_owned id
          obtain ⟨I₃, x₃⟩ := I.grow k x.size (fun a => s.heap.objs.size ≤ a ∧ a < s₁.heap.objs.size) fun _ z => z
          exact ⟨_, x₃, I₃, Rep.mono (fun a z => (x.zn a z).elim .inl fun q => q.elim (fun q => absurd q bare_owned) fun l => .inr ⟨l, I₂.zlt a z⟩) (fun a o _ eo => eo) _ _ rt, r₁⟩
        | next => exact hq.elim
        | brk => exact hq.elim
        | cont => exact hq.elim
    · first | exact nn e | exact nf e | first | exact nn e | exact nf e | cases e
  · first | exact nn e | exact nf e | first | exact nn e | exact nf e | cases e

set_option tactic.hygienic false in
theorem len_inv {t : T} {ans : Ans} (e : callBi .len [t] = some ans) : (∃ ts, t = .list ts ∧ sizeOk ts.length = true ∧ ans = .t (.int ts.length)) ∨ (∃ x, t = .str x ∧ strOk x = true ∧ ans = .t (.int x.cps.toList.length)) := by
  cases t with
  | list ts =>
    obtain ⟨hz, h⟩ := if_inv (show (if sizeOk ts.length then some (Ans.t (.int ts.length)) else none) = some ans from e)
    exact .inl ⟨ts, rfl, hz, h.symm⟩
  | str x =>
    obtain ⟨hz, h⟩ := if_inv (show (if strOk x then some (Ans.t (.int x.cps.toList.length)) else none) = some ans from e)
    exact .inr ⟨x, rfl, hz, h.symm⟩
  | _ => first | exact nn e | exact nf e | first | exact nn e | exact nf e | cases e
theorem PC.into {g₁ : Gh} (I : Inv B g σ s.heap) (x : Ext (fun _ => False) g σ s.heap g₁ σ₁ s.heap) (I₁ : Inv B g₁ σ₁ s.heap) {c : Code} {a : AV} (h : codeAny (BM B) A c (PC B g₁ σ₁ s a σ') s) : codeAny (BM B) A c (PC B g σ s a σ') s :=
  codeAny_mono h fun q s₁ hq => by
    cases q with
    | error x => exact hq.elim
    | ok fl => cases fl with
      | ret v => exact PE.trans I x I₁ SameRest.refl hq
      | _ => exact hq.elim
set_option tactic.hygienic false in
theorem fnV_ok (S : Snd B R n) (hb : Bnd A n) (I : Inv B g σ s.heap) {f : FN} {args : List AV} {vs : List Value} (avs : AVals B g s.heap σ args vs) {a : AV} (e : fnV R f args σ = some (a, σ')) :
    codeAny (BM B) A (.call (.ref (B.fa f)) ⟨vs, []⟩) (PC B g σ s a σ') s := by
  unfold fnV at e
  cases hp : isPure f with
  | true =>
    rw [hp] at e
    dsimp only at e
    cases e1 : frzs σ args with
    | none => rw [e1] at e; first | exact nn e | exact nf e | first | exact nn e | exact nf e | cases e
    | some p =>
      obtain ⟨ts, σ₁⟩ := p
      rw [e1] at e
      dsimp only at e
      cases e2 : callT R f ts with
      | none => rw [e2] at e; first | exact nn e | exact nf e | first | exact nn e | exact nf e | cases e
      | some t =>
        rw [e2] at e
        first | exact nn e | exact nf e | first | exact nn e | exact nf e | cases e
        obtain ⟨g₁, I₁, x₁, r₁⟩ := frzs_ok args I avs e1
        exact PC.into I x₁ I₁ (pure_ok S hb I₁ r₁ e2)
  | false =>
    rw [hp] at e
    exact codeAny_mono (S.c _ _ _ _ _ e A g s vs hb I avs) fun q s₁ hq => by
      cases q with
      | error x => exact hq.elim
      | ok fl => cases fl <;> exact hq
set_option tactic.hygienic false in
theorem ansV_ok {g₁ : Gh} {ans : Ans} {a : AV} (h : ansV ans σ₁ = (a, σ')) {m : Sem Value} (k : wpAny (BM B) A m (PA B g₁ σ₁ s ans) no s) : wpAny (BM B) A m (PE B g₁ σ₁ s a σ') no s := by
  cases ans <;> (cases h; exact k)
set_option tactic.hygienic false in
theorem callV_ok (W : Facts B) (S : Snd B R n) (hb : Bnd A (n + 1)) (I : Inv B g σ s.heap) {f : T} {v : Value} (hv : Rep B g.Z s.heap f v) {args : List AV} {vs : List Value} (avs : AVals B g s.heap σ args vs) {a : AV} (e : callV R f args σ = some (a, σ')) :
    wpAny (BM B) A (call v vs) (PE B g σ s a σ') no s := by
  induction f using T.casesOn with
  | fn f =>
    have hv : v = .ref (B.fa f) := hv
    subst hv
    exact PC.call (fnV_ok S hb.mono I avs e)
  | cls c =>
    have hv : v = .ref (B.ca c) := hv
    subst hv
    have e : clsV R c args σ = some (a, σ') := e
    unfold clsV at e
    cases hc : c.init with
    | none => rw [hc] at e; first | exact nn e | exact nf e | first | exact nn e | exact nf e | cases e
    | some f =>
      rw [hc] at e
      dsimp only at e
      cases e1 : R.c f (.own σ.length :: args) (σ ++ [.inst c [] []]) with
      | none => rw [e1] at e; first | exact nn e | exact nf e | first | exact nn e | exact nf e | cases e
      | some p =>
        obtain ⟨w, σ₁⟩ := p
        rw [e1] at e
        dsimp only at e
        cases hn : isNoneA w with
        | false => rw [hn] at e; first | exact nn e | exact nf e | first | exact nn e | exact nf e | cases e
        | true =>
          rw [hn] at e
          first | exact nn e | exact nf e | first | exact nn e | exact nf e | cases e
          have hw : w = .t .none := by
            induction w using AV.casesOn with
            | own => first | exact nn hn | exact nf hn | cases hn
            | t x => cases x <;> first | rfl | first | exact nn hn | exact nf hn | cases hn
          subst hw
          exact PC.call (make_ok W S hc e1 hb I avs)
  | bi b =>
    have hv : v = biV b := hv
    subst hv
    have e : (match isLen b with | true => lenV args σ | false => bisV b args σ) = some (a, σ') := e
    cases hl : isLen b with
    | true =>
      rw [hl] at e
      have hb' : b = .len := by cases b <;> first | rfl | cases hl
      subst hb'
      have e : lenV args σ = some (a, σ') := e
      induction args using List.casesOn with
      | nil => first | exact nn e | exact nf e | first | exact nn e | exact nf e | cases e
      | cons x xs => induction xs using List.casesOn with
        | cons _ _ => first | exact nn e | exact nf e | first | exact nn e | exact nf e | cases e
        | nil =>
          unfold lenV at e
          dsimp only at e
          cases ht : look σ x with
          | none => rw [ht] at e; first | exact nn e | exact nf e | first | exact nn e | exact nf e | cases e
          | some t =>
            rw [ht] at e
            dsimp only at e
            cases hr : callBi .len [t] with
            | none => rw [hr] at e; first | exact nn e | exact nf e | first | exact nn e | exact nf e | cases e
            | some ans =>
              rw [hr] at e
              have e := Option.some.inj e
              obtain ⟨w, rfl, aw⟩ := one_av avs
              have hs := look_ok I aw ht
              refine ansV_ok e ?_
              rcases len_inv hr with ⟨ts, rfl, hz, rfl⟩ | ⟨x, rfl, hz, rfl⟩
              · exact lenL_ok I hs hz
              · obtain ⟨k, rfl⟩ := (show Rep B g.Z s.heap (.str x) w from hs)
                exact lenS_ok I hz
    | false =>
      rw [hl] at e
      have e : bisV b args σ = some (a, σ') := e
      unfold bisV at e
      cases e1 : frzs σ args with
      | none => rw [e1] at e; first | exact nn e | exact nf e | first | exact nn e | exact nf e | cases e
      | some p =>
        obtain ⟨ts, σ₁⟩ := p
        rw [e1] at e
        dsimp only at e
        cases hr : callBi b ts with
        | none => rw [hr] at e; first | exact nn e | exact nf e | first | exact nn e | exact nf e | cases e
        | some ans =>
          rw [hr] at e
          have e := Option.some.inj e
          obtain ⟨g₁, I₁, x₁, r₁⟩ := frzs_ok args I avs e1
          exact PE.into I x₁ I₁ SameRest.refl (ansV_ok e (bi_ok W hb.hd I₁ r₁ hr))
  | _ => first | exact nn e | exact nf e | first | exact nn e | exact nf e | cases e
end
end Mine
end
section
set_option maxRecDepth 100000
set_option autoImplicit false
namespace Mine
open PySem PySem.W PyProof.Rows
theorem noFld_own {n : Str} {σ : Sg} {i : Nat} : noFld n σ (.own i) = (match σ[i]? with
    | some (.inst _ ns _) => !memS n ns
    | some (.frz (.inst _ ns _)) => !memS n ns
    | _ => false) := rfl

section
variable {B : Base} {R : Rec} {n : Nat} {g g' : Gh} {σ σ' σ₁ σ₂ : Sg} {A : Around} {s s₁ s₂ : Shared} {env : Env} {cx : Cx} {Γ Γ' : Ga} {lo hi : Nat} {ts us : List T} {it : Value} {h h' : Heap} {fl : Fl} {C D d : Addr}

set_option tactic.hygienic false in
theorem glob_call (W : Facts B) {f : T} {v : Value} {Z : Addr → Prop} (hv : Rep B Z h f v) {a : AV} {as : List AV} (e : callV R f as σ = some (a, σ')) :
    ∀ h', B.K.In h' → ∃ k, (k = Keeper.frame ∨ k = Keeper.machine ∨ k = Keeper.boundFrame) ∧ Looks (BM B) h' (keeperOf v) k := by
  intro h' X
  induction f using T.casesOn with
  | fn f =>
    have hv : v = .ref (B.fa f) := hv
    subst hv
    exact keeps_K (W.fn f).2 h' X
  | cls c =>
    have hv : v = .ref (B.ca c) := hv
    subst hv
    have e : clsV R c as σ = some (a, σ') := e
    unfold clsV at e
    cases hc : c.init with
    | none => rw [hc] at e; first | exact nn e | exact nf e | first | exact nn e | exact nf e | cases e
    | some f => exact keeps_K (W.init c f hc).2.2 h' X
  | bi b =>
    have hv : v = biV b := hv
    subst hv
    exact keeper_plain (fun _ => by cases b <;> exact nofun) h'
  | _ => first | exact nn e | exact nf e | first | exact nn e | exact nf e | cases e

set_option tactic.hygienic false in
theorem callName_ok (W : Facts B) (S : Snd B R n) (hb : Bnd A (n + 1)) (N : EnvOk cx env) (I : Inv B g σ s.heap) (F : FrameOk B env g σ s.heap Γ) {x : Str} {px p : Pos} {args : List Expr} {f : T} {as : List AV} {a : AV}
    (e1 : nameV cx Γ x = some (.t f)) (e2 : evs R cx Γ σ args = some (as, σ₁)) (e3 : callV R f as σ₁ = some (a, σ₂)) :
    wpAny (BM B) A (eval (.Call (.Name x px) args [] p) env) (PE B g σ s a σ₂) no s := by
  refine wpAny_Call_NameR (goE (name_ok W N I F e1) fun v s₁ g₁ x₁ I₁ r₁ av => ?_)
  refine PE.into I x₁ I₁ r₁ (callArgs_ok (P := B.K.In) S hb.mono N p I₁ (F.ext x₁) e2 (glob_call W av e3) (fun s₂ g₂ _ I₂ => W.now I₂) fun s₂ g₂ vs x₂ I₂ avs => ?_)
  exact callV_ok W S hb I₂ (x₂.rep av) avs e3

theorem memS_lkN {n : Str} : ∀ {ns : List Str} {vs : List Value}, memS n ns = false → lkN n ns vs = none
  | [], vs, _ => by cases vs <;> rfl
  | q :: ns, [], _ => rfl
  | q :: ns, v :: vs, h => by
    unfold memS at h
    rw [lkN_cons]
    cases e : sEq n q with
    | true => rw [e] at h; first | exact nn h | exact nf h | first | exact nn h | exact nf h | cases h
    | false => rw [e] at h; exact memS_lkN h

theorem getI_ok (W : Facts B) (I : Inv B g σ s.heap) {a : AV} {v : Value} (av : AVal B g s.heap σ a v) {c : CN} (hc : clsOf σ a = some c) {name : Str} {f : FN} (hm : meth c name = some f) (hn : noFld name σ a = true) {pl : Sem Bool} {Q : Value × List Value → Shared → Prop}
    (hQ : Q (.ref (B.fa f), [v]) s) : wpAny (BM B) A (getMethod v name pl) Q no s := by
  have inst : ∀ {x d : Addr} {ns : List Str} {vs : List Value}, v = .ref x → InstIs s.heap (B.ca c) x d ns vs → memS name ns = false → wpAny (BM B) A (getMethod v name pl) Q no s := by
    rintro x d ns vs rfl ⟨h1, es, k, h2, h3⟩ hn
    obtain ⟨m1, m2⟩ := W.meth c name f hm
    refine method_fn (W.now I) (instAt h1 h2) (plainGet_of m1).1 (plainGet_of m1).2 m2 (beq_iff_eq.mp (W.fn f).1) ?_ hQ
    show (lookIn name (dictOf es k)).map _ = _
    rw [lookIn_dict, fields_getL h3, memS_lkN hn]; rfl
  have tree : ∀ {t : T}, Rep B g.Z s.heap t v → clsOfT t = some c → (match t with | .inst _ ns _ => !memS name ns | _ => false) = true → wpAny (BM B) A (getMethod v name pl) Q no s := by
    intro t r hc hn
    cases t with
    | inst c' ns ts =>
      simp only [clsOfT, Option.some.injEq] at hc
      subst hc
      obtain ⟨x, d, vs, e, _, _, y, _⟩ := r
      exact inst e y (by simpa using hn)
    | _ => simp [clsOfT] at hc
  induction a using AV.casesOn with
  | t t =>
    refine tree av hc ?_
    cases t with
    | inst c' ns ts => exact hn
    | _ => simp [clsOf, clsOfT] at hc
  | own i =>
    obtain ⟨hi, e⟩ := av
    simp only [clsOf] at hc
    rw [noFld_own] at hn
    split at hc
    · rename_i c' ns vs q
      simp only [Option.some.injEq] at hc
      subst hc
      rw [q] at hn
      obtain ⟨_, ws, y, _⟩ := I.obj i _ q
      exact inst e y (by simpa using hn)
    · rename_i t q
      rw [q] at hn
      have r : Rep B g.Z s.heap t (.ref (g.r i)) := I.obj i _ q
      refine tree (e ▸ r) hc ?_
      cases t with
      | inst c' ns ts => exact hn
      | _ => simp [clsOfT] at hc
    · cases hc

set_option tactic.hygienic false in
theorem callMeth_ok (W : Facts B) (S : Snd B R n) (hb : Bnd A (n + 1)) (N : EnvOk cx env) (I : Inv B g σ s.heap) (F : FrameOk B env g σ s.heap Γ) {o : Expr} {name : Str} {ap p : Pos} {args : List Expr} {r : AV}
    (e : mthE R cx Γ σ o name ap args p = some (r, σ')) : wpAny (BM B) A (eval (.Call (.Attribute o name ap) args [] p) env) (PE B g σ s r σ') no s := by
  unfold mthE at e
  cases h : (plainBase o && Nat.beq ap.endLine p.line && Nat.blt args.length 25) with
  | false => rw [h] at e; first | exact nn e | exact nf e | first | exact nn e | exact nf e | cases e
  | true =>
    rw [h] at e
    dsimp only at e
    rw [Bool.and_eq_true, Bool.and_eq_true] at h
    have hn := Nat.blt_eq.mp h.2
    cases e1 : R.e cx Γ σ o with
    | none => rw [e1] at e; first | exact nn e | exact nf e | first | exact nn e | exact nf e | cases e
    | some q =>
      obtain ⟨v, σ₁⟩ := q
      rw [e1] at e
      dsimp only at e
      cases hc : clsOf σ₁ v with
      | some c =>
        rw [hc] at e
        dsimp only at e
        cases hm : meth c name with
        | none => rw [hm] at e; first | exact nn e | exact nf e | first | exact nn e | exact nf e | cases e
        | some f => cases hnf : noFld name σ₁ v with
          | false => rw [hm, hnf] at e; first | exact nn e | exact nf e | first | exact nn e | exact nf e | cases e
          | true =>
            rw [hm, hnf] at e
            dsimp only at e
            cases e2 : evs R cx Γ σ₁ args with
            | none => rw [e2] at e; first | exact nn e | exact nf e | first | exact nn e | exact nf e | cases e
            | some q =>
              obtain ⟨as, σ₂⟩ := q
              rw [e2] at e
              refine methCall_gen h.1.1 h.1.2 hn (evs_star args e2) (goE (S.e _ _ _ _ _ _ e1 A env g s hb.mono N I F) fun ov s₁ g₁ x₁ I₁ r₁ av => fun pl => ?_)
              refine getI_ok W I₁ av hc hm hnf ?_
              refine PE.into I x₁ I₁ r₁ (callArgs_ok (P := B.K.In) S hb.mono N p I₁ (F.ext x₁) e2 (fun h' X => keeps_K (W.fn f).2 h' X) (fun s₂ g₂ _ I₂ => W.now I₂) fun s₂ g₂ vs x₂ I₂ avs => ?_)
              exact callV_ok W S hb I₂ (f := .fn f) rfl (show AVals B g₂ s₂.heap σ₂ (v :: as) (ov :: vs) from ⟨ov, vs, rfl, x₂.aval av, avs⟩) e
      | none =>
        rw [hc] at e
        dsimp only at e
        cases hk : mkOk name (mkOf σ₁ v) with
        | false => rw [hk] at e; first | exact nn e | exact nf e | first | exact nn e | exact nf e | cases e
        | true =>
          rw [hk] at e
          dsimp only at e
          cases e2 : evs R cx Γ σ₁ args with
          | none => rw [e2] at e; first | exact nn e | exact nf e | first | exact nn e | exact nf e | cases e
          | some q =>
            obtain ⟨as, σ₂⟩ := q
            rw [e2] at e
            refine methCall_gen h.1.1 h.1.2 hn (evs_star args e2) (goE (S.e _ _ _ _ _ _ e1 A env g s hb.mono N I F) fun ov s₁ g₁ x₁ I₁ r₁ av => fun pl => ?_)
            refine getM_ok I₁ av hk ?_
            refine PE.into I x₁ I₁ r₁ (callArgs_ok (P := fun _ => True) S hb.mono N p I₁ (F.ext x₁) e2 (fun h' _ => keeper_plain (fun _ => by simp) h') (fun _ _ _ _ => trivial) fun s₂ g₂ vs x₂ I₂ avs => ?_)
            exact callM_ok hb.hd I₂ (x₂.aval av) avs e
end
end Mine
end
section
set_option maxRecDepth 100000
set_option autoImplicit false
namespace Mine
open PySem PySem.W PyProof.Rows

section
variable {B : Base} {R : Rec} {n : Nat} {g g' : Gh} {σ σ' σ₁ σ₂ : Sg} {A : Around} {s s₁ s₂ : Shared} {env : Env} {cx : Cx} {Γ Γ' : Ga} {lo hi : Nat} {ts us : List T} {it : Value} {h h' : Heap} {fl : Fl} {C D d : Addr}

set_option tactic.hygienic false in
theorem bin_step (S : Snd B R n) (hb : Bnd A n) (N : EnvOk cx env) (I : Inv B g σ s.heap) (F : FrameOk B env g σ s.heap Γ) {l r : Expr} {op : Operator} {p : Pos} {a : AV} (e : binE R cx Γ σ l op r = some (a, σ')) :
    wpAny (BM B) A (eval (.BinOp l op r p) env) (PE B g σ s a σ') no s := by
  unfold binE at e
  cases e1 : R.e cx Γ σ l with
  | none => rw [e1] at e; first | exact nn e | exact nf e | first | exact nn e | exact nf e | cases e
  | some q =>
    obtain ⟨a, σ₁⟩ := q
    rw [e1] at e
    dsimp only at e
    cases e2 : R.e cx Γ σ₁ r with
    | none => rw [e2] at e; first | exact nn e | exact nf e | first | exact nn e | exact nf e | cases e
    | some q =>
      obtain ⟨b, σ₂⟩ := q
      rw [e2] at e
      dsimp only at e
      cases h1 : look σ₂ a with
      | none => rw [h1] at e; first | exact nn e | exact nf e | first | exact nn e | exact nf e | cases e
      | some x => cases h2 : look σ₂ b with
        | none => rw [h1, h2] at e; first | exact nn e | exact nf e | first | exact nn e | exact nf e | cases e
        | some y =>
          rw [h1, h2] at e
          dsimp only at e
          cases q : binA op x y with
          | none => rw [q] at e; first | exact nn e | exact nf e | first | exact nn e | exact nf e | cases e
          | some t => rw [q] at e; cases e; exact binop_ok S hb N I F e1 e2 h1 h2 q
set_option tactic.hygienic false in
theorem if_step (S : Snd B R n) (hb : Bnd A n) (N : EnvOk cx env) (I : Inv B g σ s.heap) (F : FrameOk B env g σ s.heap Γ) {c x y : Expr} {p : Pos} {a : AV} (e : ifE R cx Γ σ c x y = some (a, σ')) :
    wpAny (BM B) A (eval (.IfExp c x y p) env) (PE B g σ s a σ') no s := by
  unfold ifE at e
  cases e1 : R.b cx Γ σ c with
  | none => rw [e1] at e; first | exact nn e | exact nf e | first | exact nn e | exact nf e | cases e
  | some q => obtain ⟨k, σ₁⟩ := q; rw [e1] at e; cases k <;> exact ifexp_ok S hb N I F e1 e
set_option tactic.hygienic false in
theorem cmp_step (S : Snd B R n) (hb : Bnd A n) (N : EnvOk cx env) (I : Inv B g σ s.heap) (F : FrameOk B env g σ s.heap Γ) {l : Expr} {ops : List CmpOp} {cs : List Expr} {p : Pos} {a : AV} (e : cmpE R cx Γ σ l ops cs = some (a, σ')) :
    wpAny (BM B) A (eval (.Compare l ops cs p) env) (PE B g σ s a σ') no s := by
  induction ops using List.casesOn with
  | nil => first | exact nn e | exact nf e | first | exact nn e | exact nf e | cases e
  | cons op ops => induction ops using List.casesOn with
    | cons _ _ => first | exact nn e | exact nf e | first | exact nn e | exact nf e | cases e
    | nil =>
      have e : (cmpB R cx Γ σ l [op] cs).map (fun (b, σ) => (AV.t (.bool b), σ)) = some (a, σ') := e
      cases q : cmpB R cx Γ σ l [op] cs with
      | none => rw [q] at e; first | exact nn e | exact nf e | first | exact nn e | exact nf e | cases e
      | some r =>
        obtain ⟨b, σ₁⟩ := r
        rw [q] at e; first | exact nn e | exact nf e | first | exact nn e | exact nf e | cases e
        induction cs using List.casesOn with
        | nil => unfold cmpB at q; cases h : R.e cx Γ σ l <;> (rw [h] at q; cases q)
        | cons c cs => induction cs using List.casesOn with
          | nil => exact cmp1_ok S hb N I F q
          | cons _ _ => unfold cmpB at q; cases h : R.e cx Γ σ l <;> (rw [h] at q; cases q)
set_option tactic.hygienic false in
theorem list_step (S : Snd B R n) (hb : Bnd A n) (N : EnvOk cx env) (I : Inv B g σ s.heap) (F : FrameOk B env g σ s.heap Γ) {es : List Expr} {p : Pos} {a : AV} (e : listE R cx Γ σ es = some (a, σ')) :
    wpAny (BM B) A (eval (.List es p) env) (PE B g σ s a σ') no s := by
  unfold listE at e
  cases e1 : evsT R cx Γ σ es with
  | none => rw [e1] at e; first | exact nn e | exact nf e | first | exact nn e | exact nf e | cases e
  | some q =>
    obtain ⟨ts, σ₁⟩ := q
    rw [e1] at e
    obtain ⟨hz, h⟩ := if_inv (show (if sizeOk ts.length then some (AV.own σ₁.length, σ₁ ++ [OObj.list ts]) else none) = some (a, σ') from e)
    first | exact nn h | exact nf h | first | exact nn h | exact nf h | cases h
    exact list_ok S hb N I F e1 hz
set_option tactic.hygienic false in
theorem tup_step (S : Snd B R n) (hb : Bnd A n) (N : EnvOk cx env) (I : Inv B g σ s.heap) (F : FrameOk B env g σ s.heap Γ) {es : List Expr} {k : Nat} {p : Pos} {a : AV} (e : tupE R cx Γ σ es = some (a, σ')) :
    wpAny (BM B) A (eval (.Tuple es k p) env) (PE B g σ s a σ') no s := by
  unfold tupE at e
  cases e1 : evsT R cx Γ σ es with
  | none => rw [e1] at e; first | exact nn e | exact nf e | first | exact nn e | exact nf e | cases e
  | some q =>
    obtain ⟨ts, σ₁⟩ := q
    rw [e1] at e
    obtain ⟨hz, h⟩ := if_inv (show (if sizeOk ts.length then some (AV.t (.tup ts), σ₁) else none) = some (a, σ') from e)
    first | exact nn h | exact nf h | first | exact nn h | exact nf h | cases h
    exact tuple_ok S hb N I F e1 hz
set_option tactic.hygienic false in
theorem dct_step (S : Snd B R n) (hb : Bnd A n) (N : EnvOk cx env) (I : Inv B g σ s.heap) (F : FrameOk B env g σ s.heap Γ) {ks : List (Option Expr)} {vs : List Expr} {p : Pos} {a : AV} (e : dctE R cx Γ σ ks vs = some (a, σ')) :
    wpAny (BM B) A (eval (.Dict ks vs p) env) (PE B g σ s a σ') no s := by
  unfold dctE at e
  cases hz : Nat.ble ks.length 15 with
  | false => rw [hz] at e; first | exact nn e | exact nf e | first | exact nn e | exact nf e | cases e
  | true =>
    rw [hz] at e
    dsimp only at e
    cases e1 : dictE R cx Γ σ ks vs with
    | none => rw [e1] at e; first | exact nn e | exact nf e | first | exact nn e | exact nf e | cases e
    | some q =>
      obtain ⟨l, σ₁⟩ := q
      rw [e1] at e
      dsimp only at e
      cases e2 : dictOfPairs l ([], []) with
      | none => rw [e2] at e; first | exact nn e | exact nf e | first | exact nn e | exact nf e | cases e
      | some q => obtain ⟨ks, ts⟩ := q; rw [e2] at e; cases e; exact dict_ok S hb N I F (Nat.le_of_ble_eq_true hz) e1 e2
set_option tactic.hygienic false in
theorem att_step (W : Facts B) (S : Snd B R n) (hb : Bnd A n) (N : EnvOk cx env) (I : Inv B g σ s.heap) (F : FrameOk B env g σ s.heap Γ) {o : Expr} {nm : Str} {p : Pos} {a : AV} (e : attE R cx Γ σ o nm = some (a, σ')) :
    wpAny (BM B) A (eval (.Attribute o nm p) env) (PE B g σ s a σ') no s := by
  unfold attE at e
  cases hp : plainBase o with
  | false => rw [hp] at e; first | exact nn e | exact nf e | first | exact nn e | exact nf e | cases e
  | true =>
    rw [hp] at e
    dsimp only at e
    cases e1 : R.e cx Γ σ o with
    | none => rw [e1] at e; first | exact nn e | exact nf e | first | exact nn e | exact nf e | cases e
    | some q =>
      obtain ⟨v, σ₁⟩ := q
      rw [e1] at e
      dsimp only at e
      cases q : getA nm σ₁ v with
      | none => rw [q] at e; first | exact nn e | exact nf e | first | exact nn e | exact nf e | cases e
      | some r => rw [q] at e; cases e; exact attrE_ok W S hb N I F hp e1 q
set_option tactic.hygienic false in
theorem sli_step (S : Snd B R n) (hb : Bnd A n) (N : EnvOk cx env) (I : Inv B g σ s.heap) (F : FrameOk B env g σ s.heap Γ) {o u : Expr} {p q : Pos} {a : AV} (e : sliE R cx Γ σ o u = some (a, σ')) :
    wpAny (BM B) A (eval (.Subscript o (.Slice none (some u) none q) p) env) (PE B g σ s a σ') no s := by
  unfold sliE at e
  cases e1 : R.e cx Γ σ o with
  | none => rw [e1] at e; first | exact nn e | exact nf e | first | exact nn e | exact nf e | cases e
  | some r =>
    obtain ⟨v, σ₁⟩ := r
    rw [e1] at e
    dsimp only at e
    cases e2 : R.e cx Γ σ₁ u with
    | none => rw [e2] at e; first | exact nn e | exact nf e | first | exact nn e | exact nf e | cases e
    | some r =>
      obtain ⟨w, σ₂⟩ := r
      rw [e2] at e
      induction w using AV.casesOn with
      | own => first | exact nn e | exact nf e | first | exact nn e | exact nf e | cases e
      | t x => induction x using T.casesOn with
        | int m =>
          dsimp only at e
          cases h3 : look σ₂ v with
          | none => rw [h3] at e; first | exact nn e | exact nf e | first | exact nn e | exact nf e | cases e
          | some t =>
            rw [h3] at e
            cases t with
            | list ts =>
              obtain ⟨hz, h⟩ := if_inv (show (if decide (0 ≤ m) && decide (m < 100000) && sizeOk ts.length then some (AV.own σ₂.length, σ₂ ++ [OObj.list (ts.take m.toNat)]) else none) = some (a, σ') from e)
              first | exact nn h | exact nf h | first | exact nn h | exact nf h | cases h
              rw [Bool.and_eq_true, Bool.and_eq_true] at hz
              exact sliceE_ok S hb N I F e1 e2 h3 (of_decide_eq_true hz.1.1) hz.2
            | _ => first | exact nn e | exact nf e | first | exact nn e | exact nf e | cases e
        | _ => first | exact nn e | exact nf e | first | exact nn e | exact nf e | cases e
set_option tactic.hygienic false in
theorem sbs_step (S : Snd B R n) (hb : Bnd A n) (N : EnvOk cx env) (I : Inv B g σ s.heap) (F : FrameOk B env g σ s.heap Γ) {o i : Expr} {p : Pos} {a : AV} (e : sbsE R cx Γ σ o i = some (a, σ')) :
    wpAny (BM B) A (eval (.Subscript o i p) env) (PE B g σ s a σ') no s := by
  unfold sbsE at e
  cases hs : notSlice i with
  | false => rw [hs] at e; first | exact nn e | exact nf e | first | exact nn e | exact nf e | cases e
  | true =>
    rw [hs] at e
    dsimp only at e
    cases e1 : R.e cx Γ σ o with
    | none => rw [e1] at e; first | exact nn e | exact nf e | first | exact nn e | exact nf e | cases e
    | some r =>
      obtain ⟨v, σ₁⟩ := r
      rw [e1] at e
      dsimp only at e
      cases e2 : R.e cx Γ σ₁ i with
      | none => rw [e2] at e; first | exact nn e | exact nf e | first | exact nn e | exact nf e | cases e
      | some r =>
        obtain ⟨w, σ₂⟩ := r
        rw [e2] at e
        induction w using AV.casesOn with
        | own => first | exact nn e | exact nf e | first | exact nn e | exact nf e | cases e
        | t k =>
          dsimp only at e
          cases h3 : look σ₂ v with
          | none => rw [h3] at e; first | exact nn e | exact nf e | first | exact nn e | exact nf e | cases e
          | some t =>
            rw [h3] at e
            dsimp only at e
            cases q : itemT t k with
            | none => rw [q] at e; first | exact nn e | exact nf e | first | exact nn e | exact nf e | cases e
            | some r => rw [q] at e; cases e; exact subE_ok S hb N I F hs e1 e2 h3 q
set_option tactic.hygienic false in
theorem sub_step (S : Snd B R n) (hb : Bnd A n) (N : EnvOk cx env) (I : Inv B g σ s.heap) (F : FrameOk B env g σ s.heap Γ) {o i : Expr} {p : Pos} {a : AV} (e : subE R cx Γ σ o i = some (a, σ')) :
    wpAny (BM B) A (eval (.Subscript o i p) env) (PE B g σ s a σ') no s := by
  induction i using PySem.Expr.casesOn with
  | Slice lo u st q => induction lo using Option.casesOn with
    | some _ => first | exact nn e | exact nf e | first | exact nn e | exact nf e | cases e
    | none => induction st using Option.casesOn with
      | some _ => first | exact nn e | exact nf e | first | exact nn e | exact nf e | cases e
      | none => induction u using Option.casesOn with
        | none => first | exact nn e | exact nf e | first | exact nn e | exact nf e | cases e
        | some u => exact sli_step S hb N I F e
  | _ => exact sbs_step S hb N I F e
set_option tactic.hygienic false in
theorem lc_step (W : Facts B) (S : Snd B R n) (hb : Bnd A n) (N : EnvOk cx env) (I : Inv B g σ s.heap) (F : FrameOk B env g σ s.heap Γ) {elt : Expr} {gs : List Comprehension} {sc : Scope} {p : Pos} {a : AV} (e : lcmE R cx Γ σ elt gs sc = some (a, σ')) :
    wpAny (BM B) A (eval (.ListComp elt gs sc p) env) (PE B g σ s a σ') no s := by
  unfold lcmE at e
  cases h : oneGen gs with
  | none => rw [h] at e; first | exact nn e | exact nf e | first | exact nn e | exact nf e | cases e
  | some r =>
    obtain ⟨tg, it, ifs⟩ := r
    rw [h] at e
    have hg := oneGen_inv h
    subst hg
    have e : lcE R cx Γ σ elt tg it ifs sc = some (a, σ') := e
    unfold lcE at e
    cases e1 : compE R cx Γ σ elt tg it ifs sc with
    | none => rw [e1] at e; first | exact nn e | exact nf e | first | exact nn e | exact nf e | cases e
    | some r =>
      obtain ⟨ts, σ₁⟩ := r
      rw [e1] at e
      first | exact nn e | exact nf e | first | exact nn e | exact nf e | cases e
      obtain ⟨us, σ₂, hk, hs, h1, h2, h3⟩ := compE_inv e1
      exact listComp_ok W S hb N I F hk hs h1 h2 h3
set_option tactic.hygienic false in
theorem call_step (W : Facts B) (S : Snd B R n) (hb : Bnd A (n + 1)) (N : EnvOk cx env) (I : Inv B g σ s.heap) (F : FrameOk B env g σ s.heap Γ) {f : Expr} {args : List Expr} {kws : List Keyword} {p : Pos} {a : AV} (e : cllE R cx Γ σ f args kws p = some (a, σ')) :
    wpAny (BM B) A (eval (.Call f args kws p) env) (PE B g σ s a σ') no s := by
  induction kws using List.casesOn with
  | cons _ _ => first | exact nn e | exact nf e | first | exact nn e | exact nf e | cases e
  | nil => induction f using PySem.Expr.casesOn with
    | Attribute o nm ap => exact callMeth_ok W S hb N I F e
    | Name x q =>
      have e : calE R cx Γ σ x args = some (a, σ') := e
      unfold calE at e
      cases h1 : nameV cx Γ x with
      | none => rw [h1] at e; first | exact nn e | exact nf e | first | exact nn e | exact nf e | cases e
      | some v =>
        rw [h1] at e
        induction v using AV.casesOn with
        | own => first | exact nn e | exact nf e | first | exact nn e | exact nf e | cases e
        | t f =>
          dsimp only at e
          cases e2 : evs R cx Γ σ args with
          | none => rw [e2] at e; first | exact nn e | exact nf e | first | exact nn e | exact nf e | cases e
          | some r => obtain ⟨as, σ₁⟩ := r; rw [e2] at e; exact callName_ok W S hb N I F h1 e2 e
    | _ => first | exact nn e | exact nf e | first | exact nn e | exact nf e | cases e
set_option tactic.hygienic false in
theorem neg_step (I : Inv B g σ s.heap) {op : UnaryOp} {ex : Expr} {p : Pos} {a : AV} (e : negE σ op ex = some (a, σ')) : wpAny (BM B) A (eval (.UnaryOp op ex p) env) (PE B g σ s a σ') no s := by
  cases op with
  | USub => cases ex with
    | Constant c k q => cases c with
      | int m =>
        obtain ⟨hz, h⟩ := if_inv (show (if intOk m then some (AV.t (.int (-m)), σ) else none) = some (a, σ') from e)
        first | exact nn h | exact nf h | first | exact nn h | exact nf h | cases h
        exact neg_ok I
      | _ => first | exact nn e | exact nf e | first | exact nn e | exact nf e | cases e
    | _ => first | exact nn e | exact nf e | first | exact nn e | exact nf e | cases e
  | _ => first | exact nn e | exact nf e | first | exact nn e | exact nf e | cases e
set_option tactic.hygienic false in
theorem stepE_ok (W : Facts B) (S : Snd B R n) (hb : Bnd A (n + 1)) (N : EnvOk cx env) (I : Inv B g σ s.heap) (F : FrameOk B env g σ s.heap Γ) {ex : Expr} {a : AV} (e : stepE R cx Γ σ ex = some (a, σ')) :
    wpAny (BM B) A (eval ex env) (PE B g σ s a σ') no s := by
  have hb' := hb.mono
  induction ex using PySem.Expr.casesOn with
  | Constant c k p =>
    have e : (constT c).map (fun t => (AV.t t, σ)) = some (a, σ') := e
    cases q : constT c with
    | none => rw [q] at e; first | exact nn e | exact nf e | first | exact nn e | exact nf e | cases e
    | some t => rw [q] at e; cases e; exact const_ok I q
  | Name x p =>
    have e : (nameV cx Γ x).map (fun v => (v, σ)) = some (a, σ') := e
    cases q : nameV cx Γ x with
    | none => rw [q] at e; first | exact nn e | exact nf e | first | exact nn e | exact nf e | cases e
    | some t => rw [q] at e; cases e; exact name_ok W N I F q
  | UnaryOp op ex p => exact neg_step I e
  | BoolOp op es p => exact boolV_ok S hb' N p op es I F e
  | BinOp l op r p => exact bin_step S hb' N I F e
  | IfExp c x y p => exact if_step S hb' N I F e
  | Compare l ops cs p => exact cmp_step S hb' N I F e
  | List es p => exact list_step S hb' N I F e
  | Tuple es k p => exact tup_step S hb' N I F e
  | Dict ks vs p => exact dct_step S hb' N I F e
  | Attribute o nm p => exact att_step W S hb' N I F e
  | Subscript o i p => exact sub_step S hb' N I F e
  | ListComp elt gs sc p => exact lc_step W S hb' N I F e
  | Call f args kws p => exact call_step W S hb N I F e
  | _ => first | exact nn e | exact nf e | first | exact nn e | exact nf e | cases e

set_option tactic.hygienic false in
theorem valB_ok (S : Snd B R n) (hb : Bnd A n) (N : EnvOk cx env) (I : Inv B g σ s.heap) (F : FrameOk B env g σ s.heap Γ) {ex : Expr} {b : Bool} (e : valB R cx Γ σ ex = some (b, σ')) :
    wpAny (BM B) A (isTrue ex env (eval ex env)) (PB B g σ s b σ') no s := by
  unfold valB at e
  cases hv : valTest ex with
  | false => rw [hv] at e; first | exact nn e | exact nf e | first | exact nn e | exact nf e | cases e
  | true =>
    rw [hv] at e
    dsimp only at e
    cases e1 : R.e cx Γ σ ex with
    | none => rw [e1] at e; first | exact nn e | exact nf e | first | exact nn e | exact nf e | cases e
    | some r =>
      obtain ⟨v, σ₁⟩ := r
      rw [e1] at e
      dsimp only at e
      cases q : look σ₁ v with
      | none => rw [q] at e; first | exact nn e | exact nf e | first | exact nn e | exact nf e | cases e
      | some t =>
        rw [q] at e
        cases q2 : truthyT t with
        | none => rw [Option.bind_some, q2] at e; first | exact nn e | exact nf e | first | exact nn e | exact nf e | cases e
        | some k =>
          rw [Option.bind_some, q2] at e; first | exact nn e | exact nf e | first | exact nn e | exact nf e | cases e
          refine wpAny_isTrue_value (goE (S.e _ _ _ _ _ _ e1 A env g s hb N I F) fun w s₁ g₁ x₁ I₁ r₁ av => ?_) (by cases ex <;> first | rfl | cases hv)
          refine wpAny_mono (truthyT_ok q2 (look_ok I₁ av q)) (fun r s₂ ⟨hr, tk, hs⟩ => ?_) fun _ _ y => y
          subst hr; subst hs
          exact ⟨g₁, x₁, I₁, rfl, r₁.trans ⟨rfl, rfl, rfl⟩⟩
set_option tactic.hygienic false in
theorem stepB_ok (W : Facts B) (S : Snd B R n) (hb : Bnd A (n + 1)) (N : EnvOk cx env) (I : Inv B g σ s.heap) (F : FrameOk B env g σ s.heap Γ) {ex : Expr} {b : Bool} (e : stepB R cx Γ σ ex = some (b, σ')) :
    wpAny (BM B) A (isTrue ex env (eval ex env)) (PB B g σ s b σ') no s := by
  have hb' := hb.mono
  cases ex with
  | UnaryOp op ex p => cases op with
    | Not =>
      have e : (match R.b cx Γ σ ex with | some (b, σ) => some (!b, σ) | none => none) = some (b, σ') := e
      cases e1 : R.b cx Γ σ ex with
      | none => rw [e1] at e; first | exact nn e | exact nf e | first | exact nn e | exact nf e | cases e
      | some r =>
        obtain ⟨k, σ₁⟩ := r
        rw [e1] at e
        first | exact nn e | exact nf e | first | exact nn e | exact nf e | cases e
        refine wpAny_isTrue_Not (wpAny_mono (S.b _ _ _ _ _ _ e1 A env g s hb' N I F) (fun v s₁ ⟨g₁, x₁, I₁, hv, r₁⟩ => ?_) fun _ _ y => y)
        subst hv
        exact ⟨g₁, x₁, I₁, rfl, r₁⟩
    | _ => first | exact nn e | exact nf e | first | exact nn e | exact nf e | cases e
  | BoolOp op es p => cases op with
    | And => exact wpAny_isTrue_BoolOp (ands_ok S hb' N _ I F e)
    | Or => exact wpAny_isTrue_BoolOp (ors_ok S hb' N _ I F e)
  | Compare l ops cs p => exact cmpT_ok S hb' N I F e
  | _ => exact valB_ok S hb' N I F e

theorem snd_step (W : Facts B) (S : Snd B R n) : Snd B (stepR R) (n + 1) where
  e cx Γ σ ex a σ' e A env g s hb N I F := stepE_ok W S hb N I F e
  b cx Γ σ ex a σ' e A env g s hb N I F := stepB_ok W S hb N I F e
  x cx Γ σ b fl Γ' σ' e A env g s hb N I F := block_ok W S N hb.mono b I F e
  c f as σ a σ' e A g s vs hb I av := callD_ok W (xOk_of W S) f e hb I av

theorem snd_run (W : Facts B) : ∀ n, Snd B (run n) n
  | 0 => Snd.none B 0
  | n + 1 => snd_step W (snd_run W n)
end
end Mine
end
section
set_option maxRecDepth 100000
set_option autoImplicit false
namespace Mine
open PySem PySem.W PyProof.Rows

/-! where the defs and classes lie in the written part -/
noncomputable def faL : FN → Addr
  | .refInit => 256 | .nameInit => 192 | .stringInit => 214 | .lookupInit => 304 | .configInit => 677 | .fieldInit => 432 | .walkInit => 453
  | .refPair => 263 | .fetch => 311 | .get => 318 | .numbers => 360 | .root => 367 | .shelfTold => 372
  | .kind_of => 277 | .told_plain => 284 | .told => 289 | .accent_signs => 384 | .mark_signs => 391 | .sign_of => 398 | .text_of => 410 | .home_of => 417
  | .whole_in => 481 | .form_of => 502 | .row_in => 509 | .own_name => 516 | .longer_name => 523 | .kind_word => 530 | .with_inherited => 537 | .new_node => 544 | .is_field => 551 | .own_widgets => 556 | .walked_form => 561
  | .text_in => 568 | .value_in => 580 | .node_faults => 606 | .value_faults => 611 | .field_faults => 616
  | .word_at => 623 | .items_at => 630 | .is_group => 637 | .groups_in => 644 | .layer_head => 651 | .group_numbers => 658 | .purposes => 663 | .configuration_of => 689 | .configuration => 695
  | .starting_states => 703 | .crowded_rows => 708 | .order_rows => 716 | .layer_faults => 721 | .rows_text => 728 | .flaws_text => 733 | .law_draw => 740 | .law_refs => 745 | .law => 750
noncomputable def caL : CN → Addr
  | .Decimal => 167 | .Name => 195 | .String => 217 | .Stream => 238 | .Reference => 266 | .Shelf => 375 | .Field => 435 | .FormWalk => 456 | .Configuration => 680
noncomputable def allFN : List FN := [.refInit, .nameInit, .stringInit, .lookupInit, .configInit, .fieldInit, .walkInit, .refPair, .fetch, .get, .numbers, .root, .shelfTold, .kind_of, .told_plain, .told, .accent_signs, .mark_signs, .sign_of, .text_of, .home_of,
  .whole_in, .form_of, .row_in, .own_name, .longer_name, .kind_word, .with_inherited, .new_node, .is_field, .own_widgets, .walked_form, .text_in, .value_in, .node_faults, .value_faults, .field_faults,
  .word_at, .items_at, .is_group, .groups_in, .layer_head, .group_numbers, .purposes, .configuration_of, .configuration, .starting_states, .crowded_rows, .order_rows, .layer_faults, .rows_text, .flaws_text, .law_draw, .law_refs, .law]
noncomputable def allCN : List CN := [.Decimal, .Name, .String, .Stream, .Reference, .Shelf, .Field, .FormWalk, .Configuration]
set_option tactic.hygienic false in
theorem allFN_mem (f : FN) : f ∈ allFN := by cases f <;> decide
set_option tactic.hygienic false in
theorem allCN_mem (c : CN) : c ∈ allCN := by cases c <;> decide

noncomputable def isNN : Option (Option Value) → Bool
  | some none => true
  | _ => false
set_option tactic.hygienic false in
theorem isNN_eq {x : Option (Option Value)} (h : isNN x = true) : x = some none := by
  unfold isNN at h; split at h
  · rfl
  · first | exact nn h | exact nf h | first | exact nn h | exact nf h | cases h
noncomputable def isRef (a : Addr) : Option (Option Value) → Bool
  | some (some (.ref b)) => Nat.beq b a
  | _ => false
set_option tactic.hygienic false in
theorem isRef_eq {a : Addr} {x : Option (Option Value)} (h : isRef a x = true) : x = some (some (.ref a)) := by
  induction x using Option.casesOn with
  | none => exact nf h
  | some o => induction o using Option.casesOn with
    | none => exact nf h
    | some v => cases v with
      | ref b => rw [Nat.eq_of_beq_eq_true (show Nat.beq b a = true from h)]
      | _ => exact nf h
noncomputable def isBlt (n : String) : Option (Option Value) → Bool
  | some (some (.builtin b)) => decide (b = n)
  | _ => false
set_option tactic.hygienic false in
theorem isBlt_eq {n : String} {x : Option (Option Value)} (h : isBlt n x = true) : x = some (some (.builtin n)) := by
  induction x using Option.casesOn with
  | none => exact nf h
  | some o => induction o using Option.casesOn with
    | none => exact nf h
    | some v => cases v with
      | builtin b => rw [of_decide_eq_true (show decide (b = n) = true from h)]
      | _ => exact nf h
noncomputable def isOB (b : Bool) : Option Bool → Bool
  | some c => c == b
  | none => false
set_option tactic.hygienic false in
theorem isOB_eq {b : Bool} {x : Option Bool} (h : isOB b x = true) : x = some b := by
  unfold isOB at h; split at h
  · rw [beq_iff_eq.mp h]
  · first | exact nn h | exact nf h | first | exact nn h | exact nf h | cases h

noncomputable def sameBi (v w : Value) : Bool := match v with
  | .builtin n => match w with
    | .builtin m => decide (n = m)
    | _ => false
  | .type n => match w with
    | .type m => decide (n = m)
    | _ => false
  | _ => false
set_option tactic.hygienic false in
theorem sameBi_eq {v w : Value} (h : sameBi v w = true) : v = w := by
  cases v with
  | builtin n => cases w with
    | builtin m => rw [of_decide_eq_true (show decide (n = m) = true from h)]
    | _ => first | exact nn h | exact nf h | first | exact nn h | exact nf h | cases h
  | type n => cases w with
    | type m => rw [of_decide_eq_true (show decide (n = m) = true from h)]
    | _ => first | exact nn h | exact nf h | first | exact nn h | exact nf h | cases h
  | _ => first | exact nn h | exact nf h | first | exact nn h | exact nf h | cases h
noncomputable def isRefV (a : Addr) (v : Value) : Bool := match v with
  | .ref b => Nat.beq b a
  | _ => false
set_option tactic.hygienic false in
theorem isRefV_eq {a : Addr} {v : Value} (h : isRefV a v = true) : v = .ref a := by
  cases v with
  | ref b => rw [Nat.eq_of_beq_eq_true (show Nat.beq b a = true from h)]
  | _ => first | exact nn h | exact nf h | first | exact nn h | exact nf h | cases h
/-- a value that stands for a tree wherever it lies -/
noncomputable def valRep (t : T) (v : Value) : Bool := match t with
  | .none => match v with
    | .none => true
    | _ => false
  | .bool b => match v with
    | .bool c => b == c
    | _ => false
  | .int n => match v with
    | .int m _ => decide (m = n)
    | _ => false
  | .str x => match v with
    | .str y _ => sEq y x
    | _ => false
  | .bytes b => match v with
    | .bytes c _ => decide (c = b.toArray)
    | _ => false
  | .fn f => isRefV (faL f) v
  | .cls c => isRefV (caL c) v
  | .bi b => sameBi v (biV b)
  | _ => false
noncomputable def valReps : List T → List Value → Bool
  | [], [] => true
  | t :: ts, v :: vs => valRep t v && valReps ts vs
  | _, _ => false

section
variable {B : Base} (hf : B.fa = faL) (hc : B.ca = caL)
include hf hc
set_option tactic.hygienic false in
theorem valRep_ok {t : T} {v : Value} (h : valRep t v = true) : ∀ Z h, Rep B Z h t v := by
  intro Z hh
  induction t using T.casesOn with
  | none => cases v with
    | none => rfl
    | _ => first | exact nn h | exact nf h | first | exact nn h | exact nf h | cases h
  | bool b => induction v using PySem.Value.casesOn with
    | bool c => rw [beq_iff_eq.mp (show (b == c) = true from h)]; rfl
    | _ => first | exact nn h | exact nf h | first | exact nn h | exact nf h | cases h
  | int n => induction v using PySem.Value.casesOn with
    | int m k => have := of_decide_eq_true (show decide (m = n) = true from h); subst this; exact ⟨_, rfl⟩
    | _ => first | exact nn h | exact nf h | first | exact nn h | exact nf h | cases h
  | str x => cases v with
    | str y k => have := (sEq_iff _ _).mp (show sEq y x = true from h); subst this; exact ⟨_, rfl⟩
    | _ => first | exact nn h | exact nf h | first | exact nn h | exact nf h | cases h
  | bytes b => induction v using PySem.Value.casesOn with
    | bytes c k => have := of_decide_eq_true (show decide (c = b.toArray) = true from h); subst this; exact ⟨_, rfl⟩
    | _ => first | exact nn h | exact nf h | first | exact nn h | exact nf h | cases h
  | fn f => have e := isRefV_eq h; show v = .ref (B.fa f); rw [e, hf]
  | cls c => have e := isRefV_eq h; show v = .ref (B.ca c); rw [e, hc]
  | bi b => exact sameBi_eq h
  | _ => first | exact nn h | exact nf h | first | exact nn h | exact nf h | cases h
theorem valReps_ok : ∀ {ts : List T} {vs : List Value}, valReps ts vs = true → ∀ Z h, RepL B Z h ts vs
  | [], [], _, _, _ => rfl
  | t :: ts, v :: vs, h, Z, hh => by
    have h := Bool.and_eq_true_iff.mp h
    exact ⟨v, vs, rfl, valRep_ok hf hc h.1 Z hh, valReps_ok h.2 Z hh⟩
  | [], _ :: _, h, _, _ => by cases h
  | _ :: _, [], h, _, _ => by cases h
end

/-! the checks -/
noncomputable def globChk (K : Frag) (p : Str × T) : Bool := match nsIn K mainGlobals p.1 with
  | some (some v) => valRep p.2 v
  | some none => (match bootBuiltins p.1 with
    | some v => valRep p.2 v
    | none => false) && !sEq p.1 "__name__"
  | none => false
noncomputable def fldChk (K : Frag) (c : CN) (n : Str) : Bool := plainGet K (caL c) n && hasDictIn K (caL c) && isNN (findIn K (.ref (caL c)) n) && isNN (takerIn K (caL c) n) &&
  isBlt "object.__setattr__" (findIn K (.ref (caL c)) "__setattr__") && plainOver K (caL c)
noncomputable def methChk (K : Frag) (c : CN) (n : Str) (f : FN) : Bool := plainGet K (caL c) n && isRef (faL f) (findIn K (.ref (caL c)) n)
noncomputable def allMeth : List (CN × Str × FN) := [(.Reference, "pair", .refPair), (.Shelf, "fetch", .fetch), (.Shelf, "get", .get), (.Shelf, "numbers", .numbers), (.Shelf, "root", .root), (.Shelf, "told", .shelfTold)]
noncomputable def fnChk (K : Frag) (f : FN) : Bool := isFn K (.ref (faL f)) && keepIn K (.ref (faL f))
noncomputable def initChk (K : Frag) (c : CN) : Bool := match c.init with
  | some f => makesIn K (caL c) && isRef (faL f) (findIn K (.ref (caL c)) "__init__") && keepIn K (.ref (caL c))
  | none => true
noncomputable def tags7 : List String := ["NoneType", "bool", "int", "str", "tuple", "list", "dict"]
noncomputable def tags4 : List String := ["bool", "int", "list", "dict"]
noncomputable def isiChk (K : Frag) : Bool := (allCN.all fun d => allCN.all fun c => isOB (decide (d = c)) (kitOne K (.ref (caL d)) (.ref (caL c)))) &&
  (allCN.all fun c => tags7.all fun t => isOB false (kitOne K (.type t) (.ref (caL c)))) &&
  (allCN.all fun c => tags4.all fun t => isOB false (kitOne K (.ref (caL c)) (.type t))) &&
  (tags7.all fun t => tags4.all fun u => isOB (t == u || (t == "bool" && u == "int")) (kitOne K (.type t) (.type u))) &&
  (allCN.all fun d => plainGet K (caL d) "__class__" && hasDictIn K (caL d) && isBlt "object.__class__" (findIn K (.ref (caL d)) "__class__") && isOB true (mroIn K (caL d) (.type "object"))) &&
  isBlt "getset_descriptor.__get__" (specialIn K (.builtin "object.__class__") "__get__") && isOB true (takesIn K (.builtin "object.__class__"))
noncomputable def fdK (K : Frag) (f : FN) : Option FuncData := match K.lookup (faL f) with
  | some ⟨_, _, .func fd, _⟩ => some fd
  | _ => none
noncomputable def codeChk (K : Frag) (fd : FuncData) : Bool := match fd.code with
  | .ref c => (match K.lookup c with
    | some ⟨_, _, .fields vs, _⟩ => (match (vs[1]? : Option Value) with
      | some (.str q _) => sEq q fd.qualname
      | _ => false)
    | _ => false)
  | _ => false
noncomputable def dfltChk (K : Frag) (f : FN) (fd : FuncData) : Bool := match f.dflts, fd.defaults with
  | [], .none => true
  | ds, .ref T => (match K.lookup T with
    | some ⟨_, _, .seq items _, _⟩ => valReps ds items.toList
    | _ => false)
  | _, _ => false
noncomputable def isFun' : ScopeKind → Bool
  | .function => true
  | _ => false
noncomputable def nmEq : List Str → List Str → Bool
  | [], [] => true
  | a :: x, b :: y => sEq a b && nmEq x y
  | _, _ => false
theorem nmEq_eq : ∀ {a b : List Str}, nmEq a b = true → a = b
  | [], [], _ => rfl
  | a :: x, b :: y, h => by
    have h := Bool.and_eq_true_iff.mp h
    rw [(sEq_iff a b).mp h.1, nmEq_eq h.2]
  | [], _ :: _, h => by cases h
  | _ :: _, [], h => by cases h
/-- the parts of a def that are no code -/
noncomputable def headChk (K : Frag) (f : FN) : Bool := match fdK K f with
  | some fd => codeChk K fd && dfltChk K f fd && fd.closure.isEmpty && Nat.beq fd.globals mainGlobals && Nat.beq fd.builtins builtinsNs && isFun' fd.scope.kind && !fd.scope.isCoroutine && !fd.scope.isGenerator &&
      fd.params.posonlyargs.isEmpty && nmEq (fd.params.args.map (·.arg)) f.params && fd.params.kwonlyargs.isEmpty && fd.params.vararg.isNone && fd.params.kwarg.isNone
  | none => false
/-- the parts that are code -/
noncomputable def CodeIs (K : Frag) (f : FN) : Prop := (fdK K f).map (fun fd => (fd.body, fd.scope.names)) = some (.stmts f.body, f.names)

structure Chk (K : Frag) : Prop where
  glob : (globT.all (globChk K)) = true
  fld : (allCN.all fun c => (CN.flds c).all (fldChk K c)) = true
  meth : (allMeth.all fun p => methChk K p.1 p.2.1 p.2.2) = true
  fn : (allFN.all (fnChk K)) = true
  init : (allCN.all (initChk K)) = true
  isi : isiChk K = true
  head : (allFN.all (headChk K)) = true
  code : ∀ f ∈ allFN, CodeIs K f

theorem fok_of {K : Frag} {prog : Program} {w : World} {h0 : Heap} (X : K.In h0) (C : Chk K) (f : FN) : ∃ o fd, FnOk ⟨prog, w, K, faL, caL, h0⟩ f o fd := by
  have H := List.all_eq_true.mp C.head f (allFN_mem f)
  have Cd := C.code f (allFN_mem f)
  unfold CodeIs at Cd
  cases e : fdK K f with
  | none => rw [e] at Cd; cases Cd
  | some fd =>
    rw [e] at Cd
    have e1 := Option.some.inj Cd
    have e2 := congrArg Prod.fst e1
    have e3 := congrArg Prod.snd e1
    dsimp only at e2 e3
    unfold headChk at H
    rw [e] at H
    simp only [Bool.and_eq_true, Bool.not_eq_true', List.isEmpty_iff, Option.isNone_iff_eq_none] at H
    obtain ⟨⟨⟨⟨⟨⟨⟨⟨⟨⟨⟨⟨h1, h2⟩, h3⟩, h4⟩, h5⟩, h6⟩, h7⟩, h8⟩, h9⟩, h10⟩, h11⟩, h12⟩, h13⟩ := H
    unfold fdK at e
    split at e
    · rename_i c d fd' sl ho
      first | exact nn e | exact nf e | first | exact nn e | exact nf e | cases e
      refine ⟨_, fd, X _ _ ho, rfl, ?_, e2, h3, Nat.eq_of_beq_eq_true h4, Nat.eq_of_beq_eq_true h5, e3, ?_, h7, h8, h9, nmEq_eq h10, h11, h12, h13, ?_⟩
      · unfold codeChk at h1
        split at h1
        · rename_i c hcd
          split at h1
          · rename_i vs _ hk
            split at h1
            · rename_i q t hq
              have := (sEq_iff _ _).mp h1
              subst this
              exact ⟨c, _, vs, t, hcd, X _ _ hk, rfl, hq⟩
            · first | exact nn h1 | exact nf h1 | first | exact nn h1 | exact nf h1 | cases h1
          · first | exact nn h1 | exact nf h1 | first | exact nn h1 | exact nf h1 | cases h1
        · first | exact nn h1 | exact nf h1 | first | exact nn h1 | exact nf h1 | cases h1
      · revert h6; unfold isFun'; split
        · intro _; assumption
        · intro hh; first | exact nn hh | exact nf hh | first | exact nn hh | exact nf hh | cases hh
      · unfold dfltChk at h2
        cases q2 : fd.defaults with
        | none => cases q1 : f.dflts with
          | nil => exact .inl ⟨rfl, rfl⟩
          | cons _ _ => rw [q1, q2] at h2; exact nf h2
        | ref T =>
          have h2 : (match K.lookup T with
            | some ⟨_, _, .seq items _, _⟩ => valReps f.dflts items.toList
            | _ => false) = true := by
            rw [q2] at h2
            cases q1 : f.dflts <;> (rw [q1] at h2; exact h2)
          split at h2
          · rename_i items m _ hk
            exact .inr ⟨T, _, items, m, rfl, X _ _ hk, rfl, valReps_ok (B := ⟨prog, w, K, faL, caL, h0⟩) rfl rfl h2⟩
          · exact nf h2
        | _ => rw [q2] at h2; cases q1 : f.dflts <;> (rw [q1] at h2; exact nf h2)
    · first | exact nn e | exact nf e | first | exact nn e | exact nf e | cases e

theorem lkS_mem {α : Type} {n : Str} {f : α} : ∀ {l : List (Str × α)}, lkS n l = some f → (n, f) ∈ l
  | [], h => by cases h
  | (y, v) :: r, h => by
    unfold lkS at h
    cases q : sEq n y with
    | true => rw [q] at h; cases h; rw [(sEq_iff _ _).mp q]; exact .head _
    | false => rw [q] at h; exact .tail _ (lkS_mem h)
set_option tactic.hygienic false in
theorem meth_mem {c : CN} {n : Str} {f : FN} (e : meth c n = some f) : (c, n, f) ∈ allMeth := by
  cases c with
  | Reference =>
    have e : (if sEq n "pair" then some FN.refPair else none) = some f := e
    by_cases h : sEq n "pair" = true
    · rw [if_pos h] at e; cases e; rw [(sEq_iff _ _).mp h]; exact .head _
    · rw [if_neg h] at e; first | exact nn e | exact nf e | first | exact nn e | exact nf e | cases e
  | Shelf => exact .tail _ (List.mem_map_of_mem (f := fun p : Str × FN => (CN.Shelf, p.1, p.2)) (lkS_mem e))
  | _ => first | exact nn e | exact nf e | first | exact nn e | exact nf e | cases e

theorem facts_of {K : Frag} {prog : Program} {w : World} {h0 : Heap} {mg mb : Str → Option Value} (X : K.In h0) (G : h0.Ns mainGlobals mg) (Bn : h0.Ns builtinsNs mb) (NL : h0.NoLimit) (hb : ∀ x : Str, x ≠ "__name__" → mb x = bootBuiltins x) (C : Chk K) :
    Facts ⟨prog, w, K, faL, caL, h0⟩ where
  kin := X
  glob := ⟨mg, mb, G, Bn, fun x t e => by
    rw [lkS_eq] at e
    have H := List.all_eq_true.mp C.glob _ (mem_of_lookup e)
    unfold globChk at H
    split at H
    · rename_i v hv
      exact ⟨v, .inl (mg_of X G hv), valRep_ok (B := ⟨prog, w, K, faL, caL, h0⟩) rfl rfl H⟩
    · rename_i hv
      have H := Bool.and_eq_true_iff.mp H
      have h1 := H.1
      split at h1
      · rename_i v hbv
        have hne : x ≠ "__name__" := sEq_false (by simpa using H.2)
        exact ⟨v, .inr ⟨mg_none_of X G hv, (hb x hne).trans hbv⟩, valRep_ok (B := ⟨prog, w, K, faL, caL, h0⟩) rfl rfl h1⟩
      · first | exact nn h1 | exact nf h1 | first | exact nn h1 | exact nf h1 | cases h1
    · cases H⟩
  nolimit := NL
  cget c n hm := by
    have H := List.all_eq_true.mp (List.all_eq_true.mp C.fld c (allCN_mem c)) n ((memS_iff n _).mp hm)
    unfold fldChk at H
    simp only [Bool.and_eq_true] at H
    obtain ⟨⟨⟨⟨⟨a, b⟩, c⟩, d⟩, e⟩, f⟩ := H
    exact ⟨a, b, isNN_eq c, isNN_eq d⟩
  cset c n hm := by
    have H := List.all_eq_true.mp (List.all_eq_true.mp C.fld c (allCN_mem c)) n ((memS_iff n _).mp hm)
    unfold fldChk at H
    simp only [Bool.and_eq_true] at H
    obtain ⟨⟨⟨⟨⟨a, b⟩, c⟩, d⟩, e⟩, f⟩ := H
    exact ⟨isBlt_eq e, f⟩
  meth c n f hm := by
    have H := List.all_eq_true.mp C.meth _ (meth_mem hm)
    unfold methChk at H
    have H := Bool.and_eq_true_iff.mp H
    exact ⟨H.1, isRef_eq H.2⟩
  fn f := Bool.and_eq_true_iff.mp (List.all_eq_true.mp C.fn f (allFN_mem f))
  fok f := fok_of X C f
  isi := by
    have H := C.isi
    unfold isiChk at H
    simp only [Bool.and_eq_true] at H
    obtain ⟨⟨⟨⟨⟨⟨a, b⟩, c⟩, d⟩, e⟩, f⟩, g⟩ := H
    refine ⟨fun x y => ?_, fun x t ht => ?_, fun x t ht => ?_, fun t ht u hu => ?_, fun x => ?_, isBlt_eq f, isOB_eq g⟩
    · exact isOB_eq (List.all_eq_true.mp (List.all_eq_true.mp a x (allCN_mem x)) y (allCN_mem y))
    · exact isOB_eq (List.all_eq_true.mp (List.all_eq_true.mp b x (allCN_mem x)) t ht)
    · exact isOB_eq (List.all_eq_true.mp (List.all_eq_true.mp c x (allCN_mem x)) t ht)
    · exact isOB_eq (List.all_eq_true.mp (List.all_eq_true.mp d t ht) u hu)
    · have q := List.all_eq_true.mp e x (allCN_mem x)
      simp only [Bool.and_eq_true] at q
      exact ⟨q.1.1.1, q.1.1.2, isBlt_eq q.1.2, isOB_eq q.2⟩
  init c f hc := by
    have H := List.all_eq_true.mp C.init c (allCN_mem c)
    unfold initChk at H
    rw [hc] at H
    simp only [Bool.and_eq_true] at H
    exact ⟨H.1.1, isRef_eq H.1.2, H.2⟩
end Mine
end
section
set_option maxRecDepth 100000
set_option autoImplicit false
namespace Mine
open PySem

/-! the law's own data -/
noncomputable def refT (n : Int) : T := .inst .Reference [Str.ofString "number", Str.ofString "generation"] [.int n, .int 0]
noncomputable def refsT (l : List Int) : T := .list (l.map refT)
noncomputable def intsT (l : List Int) : T := .list (l.map .int)
noncomputable def nameT (x : Str) : T := .inst .Name [Str.ofString "text"] [.str x]
noncomputable def strT (b : List UInt8) : T := .inst .String [Str.ofString "octets", Str.ofString "is_hex"] [.bytes b, .bool false]
noncomputable def ocgT : T := .tup [.int 0, .dict [.s (Str.ofString "Type"), .s (Str.ofString "Name")] [nameT (Str.ofString "OCG"), strT [120]]]
noncomputable def firstT (w1 w2 w3 w4 row : T) : T := .dict [.s (Str.ofString "ON"), .s (Str.ofString "OFF"), .s (Str.ofString "Locked"), .s (Str.ofString "Order"), .s (Str.ofString "RBGroups")] [w1, w2, w3, w4, .list [row]]
noncomputable def fldNums : Nat → List Int
  | 0 => []
  | 1 => [20]
  | 2 => [20, 21]
  | _ => [20, 21, 22]
noncomputable def rootT (L D : T) (n : Nat) : T := .dict [.s (Str.ofString "Type"), .s (Str.ofString "OCProperties"), .s (Str.ofString "AcroForm")]
  [nameT (Str.ofString "Catalog"), .dict [.s (Str.ofString "OCGs"), .s (Str.ofString "D")] [L, D], .dict [.s (Str.ofString "Fields")] [refsT (fldNums n)]]
noncomputable def shelfT (ks : List Key) (vs : List T) (tr : T) : T := .inst .Shelf [Str.ofString "table", Str.ofString "trailer"] [.dict (.i 10 :: .i 11 :: .i 12 :: .i 13 :: ks) (ocgT :: ocgT :: ocgT :: ocgT :: vs), tr]
noncomputable def trailT : T := .dict [.s (Str.ofString "Root")] [refT 1]
/-- the shelf: F are the fields' entries -/
noncomputable def shT (L D : T) (F : List T) : T := shelfT ((fldNums F.length).map Key.i ++ [.i 1]) (F ++ [.tup [.int 0, rootT L D F.length]]) trailT
/-- at most three fields -/
inductive Few : List T → Prop
  | n0 : Few []
  | n1 (a : T) : Few [a]
  | n2 (a b : T) : Few [a, b]
  | n3 (a b c : T) : Few [a, b, c]

noncomputable def subs : List Int → List (List Int)
  | [] => [[]]
  | a :: r => (subs r).map (a :: ·) ++ subs r
noncomputable def ws : List (List Int) := subs [10, 11, 12, 13]
set_option tactic.hygienic false in
theorem ws_ind {P : List Int → Prop} (h : P [10,11,12,13] ∧ P [10,11,12] ∧ P [10,11,13] ∧ P [10,11] ∧ P [10,12,13] ∧ P [10,12] ∧ P [10,13] ∧ P [10] ∧ P [11,12,13] ∧ P [11,12] ∧ P [11,13] ∧ P [11] ∧ P [12,13] ∧ P [12] ∧ P [13] ∧ P []) {w : List Int} (m : w ∈ ws) : P w := by
  obtain ⟨a, b, c, d, e, f, g, i, j, k, l, n, o, p, q, r⟩ := h
  have m : w ∈ [[10,11,12,13],[10,11,12],[10,11,13],[10,11],[10,12,13],[10,12],[10,13],[10],[11,12,13],[11,12],[11,13],[11],[12,13],[12],[13],[]] := m
  simp only [List.mem_cons, List.not_mem_nil, or_false] at m
  rcases m with rfl | rfl | rfl | rfl | rfl | rfl | rfl | rfl | rfl | rfl | rfl | rfl | rfl | rfl | rfl | rfl <;> assumption

set_option tactic.hygienic false in
theorem refs_ok (m : Nat) {w : List Int} (h : w ∈ ws) : callT (run (m + 12)) .law_refs [intsT w] = some (refsT w) := by
  refine ws_ind (P := fun w => callT (run (m + 12)) .law_refs [intsT w] = some (refsT w)) ?_ h
  refine ⟨?_, ?_, ?_, ?_, ?_, ?_, ?_, ?_, ?_, ?_, ?_, ?_, ?_, ?_, ?_, ?_⟩ <;> kernel_rfl
set_option tactic.hygienic false in
theorem groups_ok (m : Nat) (ks : List Key) (vs : List T) (tr : T) {w : List Int} (h : w ∈ ws) : callT (run (m + 24)) .groups_in [shelfT ks vs tr, refsT w] = some (intsT w) := by
  refine ws_ind (P := fun w => callT (run (m + 24)) .groups_in [shelfT ks vs tr, refsT w] = some (intsT w)) ?_ h
  refine ⟨?_, ?_, ?_, ?_, ?_, ?_, ?_, ?_, ?_, ?_, ?_, ?_, ?_, ?_, ?_, ?_⟩ <;> kernel_rfl
noncomputable def orderT (w : List Int) : T := .list (w.map fun n => .tup [.str (Str.ofString "group"), .int 0, .int n])
set_option tactic.hygienic false in
theorem order_ok (m : Nat) (ks : List Key) (vs : List T) (tr : T) {w : List Int} (h : w ∈ ws) : callT (run (m + 24)) .order_rows [shelfT ks vs tr, refsT w] = some (orderT w) := by
  refine ws_ind (P := fun w => callT (run (m + 24)) .order_rows [shelfT ks vs tr, refsT w] = some (orderT w)) ?_ h
  refine ⟨?_, ?_, ?_, ?_, ?_, ?_, ?_, ?_, ?_, ?_, ?_, ?_, ?_, ?_, ?_, ?_⟩ <;> kernel_rfl
end Mine
end
section
set_option maxRecDepth 100000
set_option autoImplicit false
namespace Mine
open PySem

/-- the listed ones -/
inductive Lst : List Int → Prop
  | l0 : Lst []
  | l1 : Lst [10]
  | l2 : Lst [10, 11]
  | l3 : Lst [10, 11, 12]
set_option tactic.hygienic false in
theorem numbers_ok (m : Nat) {L : List Int} (hL : Lst L) (D : T) {F : List T} (hF : Few F) : callT (run (m + 30)) .group_numbers [shT (refsT L) D F] = some (intsT L) := by
  cases hL <;> cases hF <;> kernel_rfl
/-- D is told -/
noncomputable def cfgT (row w1 w2 w3 : List Int) (o : T) : T := .inst .Configuration [Str.ofString "base", Str.ofString "on", Str.ofString "off", Str.ofString "radio", Str.ofString "locked", Str.ofString "order", Str.ofString "words"]
  [.str (Str.ofString "ON"), intsT w1, intsT w2, .list [intsT row], intsT w3, o, .list [.str (Str.ofString "View")]]

theorem e_run (n : Nat) (cx : Cx) (Γ : Ga) (σ : Sg) (e : Expr) : (run (n + 1)).e cx Γ σ e = stepE (run n) cx Γ σ e := rfl
theorem b_run (n : Nat) (cx : Cx) (Γ : Ga) (σ : Sg) (e : Expr) : (run (n + 1)).b cx Γ σ e = stepB (run n) cx Γ σ e := rfl
theorem x_run (n : Nat) (cx : Cx) (Γ : Ga) (σ : Sg) (e : List Stmt) : (run (n + 1)).x cx Γ σ e = stepX (run n) cx Γ σ e := rfl
/-! rules: one step of the evaluator -/
section
variable {R : Rec} {cx : Cx} {Γ : Ga} {σ σ₁ σ₂ : Sg}
set_option tactic.hygienic false in
theorem cal_pure {x : Str} {args : List Expr} {f : FN} {as : List AV} {ts : List T} {t : T} (h1 : nameV cx Γ x = some (.t (.fn f))) (hp : isPure f = true) (h2 : evs R cx Γ σ args = some (as, σ₁)) (h3 : frzs σ₁ as = some (ts, σ₂)) (h4 : callT R f ts = some t) :
    calE R cx Γ σ x args = some (.t t, σ₂) := by
  simp only [calE, h1, h2, callV, fnV, hp, h3, h4]
set_option tactic.hygienic false in
theorem evs_cons {e : Expr} {r : List Expr} {v : AV} {vs : List AV} (h0 : notStar e = true) (h1 : R.e cx Γ σ e = some (v, σ₁)) (h2 : evs R cx Γ σ₁ r = some (vs, σ₂)) : evs R cx Γ σ (e :: r) = some (v :: vs, σ₂) := by
  simp only [evs, h0, h1, h2]
set_option tactic.hygienic false in
theorem x_next {s : Stmt} {r : List Stmt} {Γ₁ : Ga} {y : Option (Fl × Ga × Sg)} (h1 : stepS R cx Γ σ s = some (.next, Γ₁, σ₁)) (h2 : stepX R cx Γ₁ σ₁ r = y) : stepX R cx Γ σ (s :: r) = y := by
  rw [stepX, h1]; exact h2
set_option tactic.hygienic false in
theorem x_ret {s : Stmt} {r : List Stmt} {Γ₁ : Ga} {v : AV} (h1 : stepS R cx Γ σ s = some (.ret v, Γ₁, σ₁)) : stepX R cx Γ σ (s :: r) = some (.ret v, Γ₁, σ₁) := by
  rw [stepX, h1]
set_option tactic.hygienic false in
theorem callT_of {f : FN} {ts : List T} {full : List AV} {b : List Stmt} {v : AV} {Γ₁ : Ga} {t : T} (hb : f.body = b) (hn : (Nat.ble ts.length f.params.length && Nat.ble f.params.length (ts.length + f.dflts.length)) = true)
    (hf : ts.map AV.t ++ (f.dflts.drop (ts.length + f.dflts.length - f.params.length)).map AV.t = full) (h1 : stepX R ⟨f.names⟩ (zipA f.params full) [] b = some (.ret v, Γ₁, σ₁)) (h2 : (frz σ₁ v).map (·.1) = some t) : callT (stepR R) f ts = some t := by
  have e : (stepR R).c f (ts.map .t) [] = some (v, σ₁) := by
    show stepC R f (ts.map .t) [] = _
    unfold stepC
    simp only [List.length_map, hn, if_true, hf, hb, h1]
  unfold callT
  rw [e]
  dsimp only
  cases q : frz σ₁ v with
  | none => rw [q] at h2; first | exact nn h2 | exact nf h2 | cases h2
  | some r => obtain ⟨a, b⟩ := r; rw [q] at h2; cases h2; rfl
end
end Mine
end
section
set_option maxRecDepth 100000
set_option autoImplicit false
namespace Mine
open PySem

noncomputable def noS : Stmt := .Pass ⟨0, 0, 0, 0⟩
noncomputable def noE : Expr := .Tuple [] 0 ⟨0, 0, 0, 0⟩
/-- the i-th statement -/
noncomputable def nth (l : List Stmt) (i : Nat) : Stmt := (l[i]?).getD noS
noncomputable def st (f : FN) (i : Nat) : Stmt := nth f.body i
/-- the expression in a statement -/
noncomputable def exOf : Stmt → Expr
  | .Return (some e) _ => e
  | .Assign _ e _ => e
  | .Expr e _ => e
  | .If e .. => e
  | .For _ e .. => e
  | _ => noE
noncomputable def tgOf : Stmt → Expr
  | .For t .. => t
  | _ => noE
noncomputable def bodyOf : Stmt → List Stmt
  | .For _ _ b .. => b
  | .If _ b .. => b
  | .Try b .. => b
  | _ => []
noncomputable def argsOf : Expr → List Expr
  | .Call _ as .. => as
  | .Tuple es .. => es
  | .List es .. => es
  | _ => []
noncomputable def arg (e : Expr) (i : Nat) : Expr := ((argsOf e)[i]?).getD noE
noncomputable def eltOf : Expr → Expr
  | .ListComp e .. => e
  | _ => noE
noncomputable def genOf : Expr → Expr × Expr × List Expr × Scope
  | .ListComp _ [⟨tg, it, ifs, _⟩] sc _ => (tg, it, ifs, sc)
  | _ => (noE, noE, [], ⟨.function, [], false, false, []⟩)

section
variable {R : Rec} {cx : Cx} {Γ Γ' Γ₁ : Ga} {σ σ₁ σ₂ σ₃ : Sg}
set_option tactic.hygienic false in
theorem s_ret {s : Stmt} {e : Expr} {v : AV} (h : stepS R cx Γ σ s = retS R cx Γ σ e) (h1 : R.e cx Γ σ e = some (v, σ₁)) : stepS R cx Γ σ s = some (.ret v, Γ, σ₁) := by
  rw [h]; simp only [retS, h1]
set_option tactic.hygienic false in
theorem s_asg {s : Stmt} {x : Str} {e : Expr} {v : AV} (h : stepS R cx Γ σ s = asgS R cx Γ σ x e) (hs : notSwap e = true) (h1 : R.e cx Γ σ e = some (v, σ₁)) (h2 : bindN cx x v Γ = some Γ') : stepS R cx Γ σ s = some (.next, Γ', σ₁) := by
  rw [h]; simp only [asgS, hs, h1, h2]
set_option tactic.hygienic false in
theorem comp_cons {tg elt : Expr} {ifs : List Expr} {v : T} {r : List T} {a : AV} {t : T} {ts : List T} (h1 : bindT cx tg v Γ = some Γ') (h2 : andsB R cx Γ' σ ifs = some (true, σ)) (h3 : R.e cx Γ' σ elt = some (a, σ₁)) (h4 : frz σ₁ a = some (t, σ₂))
    (h5 : compL R cx tg elt ifs Γ' σ₂ r = some (ts, σ₃)) : compL R cx tg elt ifs Γ σ (v :: r) = some (t :: ts, σ₃) := by
  simp only [compL, h1, h2, h3, h4, h5]
set_option tactic.hygienic false in
theorem comp_e {elt tg it : Expr} {ifs : List Expr} {sc : Scope} {vs ts : List T} (h0 : (isFun sc.kind && scOk cx sc.names sc.names) = true) (h1 : srcE R cx Γ σ it = some (vs, σ₁)) (h2 : Nat.ble vs.length 1000 = true) (h3 : compL R ⟨sc.names⟩ tg elt ifs (freeOf sc.names Γ) σ₁ vs = some (ts, σ₂)) :
    compE R cx Γ σ elt tg it ifs sc = some (ts, σ₂) := by
  simp only [compE, h0, h1, h2, h3]
set_option tactic.hygienic false in
theorem lc_e {elt tg it : Expr} {ifs : List Expr} {sc : Scope} {ts : List T} (h : compE R cx Γ σ elt tg it ifs sc = some (ts, σ₁)) : lcE R cx Γ σ elt tg it ifs sc = some (.own σ₁.length, σ₁ ++ [.list ts]) := by
  simp only [lcE, h]
set_option tactic.hygienic false in
theorem cal_any {x : Str} {args : List Expr} {f : T} {as : List AV} {y : Option (AV × Sg)} (h1 : nameV cx Γ x = some (.t f)) (h2 : evs R cx Γ σ args = some (as, σ₁)) (h3 : callV R f as σ₁ = y) : calE R cx Γ σ x args = y := by
  simp only [calE, h1, h2, h3]
end

section
variable (ks : List Key) (vs : List T) (tr : T)
set_option tactic.hygienic false in
theorem conf_of_ok (m : Nat) {w1 w2 w3 row : List Int} (h1 : w1 ∈ ws) (h2 : w2 ∈ ws) (h3 : w3 ∈ ws) (hr : row ∈ ws) (o : List Int) :
    callT (run (m + 40)) .configuration_of [shelfT ks vs tr, firstT (refsT w1) (refsT w2) (refsT w3) (refsT o) (refsT row)] = some (cfgT row w1 w2 w3 (refsT o)) := by
  let sh := shelfT ks vs tr
  let D := firstT (refsT w1) (refsT w2) (refsT w3) (refsT o) (refsT row)
  let Γ : Ga := [(Str.ofString "shelf", .t sh), (Str.ofString "head", .t D), (Str.ofString "rows", .own 0)]
  let E := exOf (st .configuration_of 1)
  let G := genOf (arg E 3)
  let σ0 : Sg := [.list [refsT row]]
  let σ1 : Sg := [.frz (.list [refsT row]), .list [intsT row]]
  have g : ∀ (σ : Sg) (w : List Int) (_ : w ∈ ws) (e : Expr) (_ : stepE (run (m + 37)) ⟨FN.configuration_of.names⟩ Γ σ e = calE (run (m + 37)) ⟨FN.configuration_of.names⟩ Γ σ (Str.ofString "groups_in") (argsOf e)) (_ : evs (run (m + 37)) ⟨FN.configuration_of.names⟩ Γ σ (argsOf e) = some ([.t sh, .t (refsT w)], σ)),
      (run (m + 38)).e ⟨FN.configuration_of.names⟩ Γ σ e = some (.t (intsT w), σ) := fun σ w hw e he hv => by
    refine (e_run (m + 37) _ _ _ _).trans ?_
    rw [he]
    exact cal_pure (f := .groups_in) (by kernel_rfl) (by kernel_rfl) hv rfl (groups_ok (m + 13) ks vs tr hw)
  refine callT_of (R := run (m + 39)) (b := [st .configuration_of 0, st .configuration_of 1]) (by kernel_rfl) (by kernel_rfl) rfl (x_next (Γ₁ := Γ) (σ₁ := σ0) (by kernel_rfl) (x_ret (s_ret (e := E) (by kernel_rfl) ?_))) (v := .own 2)
    (σ₁ := σ1 ++ [.inst .Configuration [Str.ofString "base", Str.ofString "on", Str.ofString "off", Str.ofString "radio", Str.ofString "locked", Str.ofString "order", Str.ofString "words"] [.t (.str (Str.ofString "ON")), .t (intsT w1), .t (intsT w2), .own 1, .t (intsT w3), .t (refsT o), .t (.list [.str (Str.ofString "View")])]]) (by kernel_rfl)
  refine (e_run (m + 38) ⟨FN.configuration_of.names⟩ Γ σ0 E).trans ?_
  rw [show stepE (run (m + 38)) ⟨FN.configuration_of.names⟩ Γ σ0 E = calE (run (m + 38)) ⟨FN.configuration_of.names⟩ Γ σ0 (Str.ofString "Configuration") (argsOf E) from by kernel_rfl]
  refine cal_any (f := .cls .Configuration) (as := [.t (.str (Str.ofString "ON")), .t (intsT w1), .t (intsT w2), .own 1, .t (intsT w3), .t (refsT o), .t (.list [.str (Str.ofString "View")])]) (σ₁ := σ1) (by kernel_rfl) ?_ (by kernel_rfl)
  rw [show argsOf E = [arg E 0, arg E 1, arg E 2, arg E 3, arg E 4, arg E 5, arg E 6] from by kernel_rfl]
  refine evs_cons (σ₁ := σ0) (by kernel_rfl) (by kernel_rfl) ?_
  refine evs_cons (σ₁ := σ0) (by kernel_rfl) (g σ0 w1 h1 (arg E 1) (by kernel_rfl) (by kernel_rfl)) ?_
  refine evs_cons (σ₁ := σ0) (by kernel_rfl) (g σ0 w2 h2 (arg E 2) (by kernel_rfl) (by kernel_rfl)) ?_
  refine evs_cons (σ₁ := σ1) (by kernel_rfl) ?_ ?_
  · refine (e_run (m + 37) ⟨FN.configuration_of.names⟩ Γ σ0 (arg E 3)).trans ?_
    rw [show stepE (run (m + 37)) ⟨FN.configuration_of.names⟩ Γ σ0 (arg E 3) = lcE (run (m + 37)) ⟨FN.configuration_of.names⟩ Γ σ0 (eltOf (arg E 3)) G.1 G.2.1 G.2.2.1 G.2.2.2 from by kernel_rfl]
    let Γc : Ga := [(Str.ofString "shelf", .t sh), (Str.ofString "row", .t (refsT row))]
    refine lc_e (σ₁ := [.frz (.list [refsT row])]) (comp_e (vs := [refsT row]) (σ₁ := [.frz (.list [refsT row])]) (by kernel_rfl) (by kernel_rfl) (by kernel_rfl) ?_)
    refine comp_cons (Γ' := Γc) (a := .t (intsT row)) (σ₁ := [.frz (.list [refsT row])]) (σ₂ := [.frz (.list [refsT row])]) (by kernel_rfl) (by kernel_rfl) ?_ rfl rfl
    refine (e_run (m + 36) ⟨G.2.2.2.names⟩ Γc [.frz (.list [refsT row])] (eltOf (arg E 3))).trans ?_
    rw [show stepE (run (m + 36)) ⟨G.2.2.2.names⟩ Γc [.frz (.list [refsT row])] (eltOf (arg E 3)) = calE (run (m + 36)) ⟨G.2.2.2.names⟩ Γc [.frz (.list [refsT row])] (Str.ofString "groups_in") (argsOf (eltOf (arg E 3))) from by kernel_rfl]
    exact cal_pure (f := .groups_in) (as := [.t sh, .t (refsT row)]) (by kernel_rfl) (by kernel_rfl) (by kernel_rfl) rfl (groups_ok (m + 12) ks vs tr hr)
  refine evs_cons (σ₁ := σ1) (by kernel_rfl) (g σ1 w3 h3 (arg E 4) (by kernel_rfl) (by kernel_rfl)) ?_
  refine evs_cons (σ₁ := σ1) (by kernel_rfl) (by kernel_rfl) ?_
  refine evs_cons (σ₁ := σ1) (by kernel_rfl) (by kernel_rfl) rfl
end
end Mine
end
section
set_option maxRecDepth 100000
set_option autoImplicit false
namespace Mine
open PySem

section
variable {R : Rec} {cx : Cx} {Γ Γ' Γ₁ : Ga} {σ σ₁ σ₂ σ₃ : Sg}
set_option tactic.hygienic false in
theorem s_if {s : Stmt} {c : Expr} {a b : List Stmt} {k : Bool} {y : Option (Fl × Ga × Sg)} (h : stepS R cx Γ σ s = ifS R cx Γ σ c a b) (h1 : R.b cx Γ σ c = some (k, σ₁)) (h2 : R.x cx Γ σ₁ (if k then a else b) = y) : stepS R cx Γ σ s = y := by
  rw [h]; simp only [ifS, h1]
  cases k <;> exact h2
set_option tactic.hygienic false in
theorem s_for {s : Stmt} {tg it : Expr} {body : List Stmt} {vs : List T} {y : Option (Fl × Ga × Sg)} (h : stepS R cx Γ σ s = forS R cx Γ σ tg it body) (h1 : srcE R cx Γ σ it = some (vs, σ₁)) (h2 : forL R cx tg body Γ σ₁ vs = y) : stepS R cx Γ σ s = y := by
  rw [h]; simp only [forS, h1]; exact h2
set_option tactic.hygienic false in
theorem for_cons {tg : Expr} {body : List Stmt} {v : T} {r : List T} {y : Option (Fl × Ga × Sg)} (h1 : bindT cx tg v Γ = some Γ') (h2 : R.x cx Γ' σ body = some (.next, Γ₁, σ₁)) (h3 : forL R cx tg body Γ₁ σ₁ r = y) : forL R cx tg body Γ σ (v :: r) = y := by
  simp only [forL, h1, h2]; exact h3
theorem for_nil {tg : Expr} {body : List Stmt} : forL R cx tg body Γ σ [] = some (.next, dropT tg Γ, σ) := rfl
end

section
variable (L : List Int) (D : T) (F : List T)
set_option tactic.hygienic false in
theorem conf_ok (m : Nat) {L : List Int} {F : List T} (hF : Few F) {w1 w2 w3 row : List Int} (h1 : w1 ∈ ws) (h2 : w2 ∈ ws) (h3 : w3 ∈ ws) (hr : row ∈ ws) (o : List Int) :
    callT (run (m + 44)) .configuration [shT (refsT L) (firstT (refsT w1) (refsT w2) (refsT w3) (refsT o) (refsT row)) F] = some (cfgT row w1 w2 w3 (refsT o)) := by
  let D := firstT (refsT w1) (refsT w2) (refsT w3) (refsT o) (refsT row)
  let Γ0 : Ga := [(Str.ofString "shelf", .t (shT (refsT L) D F)), (Str.ofString "index", .t (.int (-1)))]
  let Γ1 : Ga := Γ0 ++ [(Str.ofString "head", .t D)]
  let c := exOf (st .configuration 0)
  let b := bodyOf (st .configuration 0)
  refine callT_of (R := run (m + 43)) (b := [st .configuration 0, st .configuration 1, st .configuration 2, st .configuration 3]) (σ₁ := []) (v := .t (cfgT row w1 w2 w3 (refsT o))) (Γ₁ := Γ1) (by kernel_rfl) (by kernel_rfl) rfl (x_ret ?_) rfl
  refine s_if (c := c) (a := b) (b := []) (k := true) (σ₁ := []) (by kernel_rfl) (by kernel_rfl) ?_
  refine (x_run (m + 42) ⟨FN.configuration.names⟩ Γ0 [] b).trans ?_
  rw [show b = [nth b 0, nth b 1] from by kernel_rfl]
  refine x_next (Γ₁ := Γ1) (σ₁ := []) (by cases hF <;> kernel_rfl) (x_ret (s_ret (e := exOf (nth b 1)) (by kernel_rfl) ?_))
  refine (e_run (m + 41) ⟨FN.configuration.names⟩ Γ1 [] (exOf (nth b 1))).trans ?_
  rw [show stepE (run (m + 41)) ⟨FN.configuration.names⟩ Γ1 [] (exOf (nth b 1)) = calE (run (m + 41)) ⟨FN.configuration.names⟩ Γ1 [] (Str.ofString "configuration_of") (argsOf (exOf (nth b 1))) from by kernel_rfl]
  exact cal_pure (f := .configuration_of) (as := [.t (shT (refsT L) D F), .t D]) (by kernel_rfl) (by kernel_rfl) (by kernel_rfl) rfl (conf_of_ok _ _ _ (m + 1) h1 h2 h3 hr o)
end

/-! the layers' states -/
noncomputable def statesT (L w : List Int) : T := .dict (L.map Key.i) (L.map fun n => .bool !(w.contains n))
noncomputable def trues (L : List Int) : List T := L.map fun _ => T.bool true
noncomputable def stG (L w1 w2 w3 row : List Int) (o : T) : Ga := [(Str.ofString "numbers", .t (intsT L)), (Str.ofString "config", .t (cfgT row w1 w2 w3 o)), (Str.ofString "before", .t .none), (Str.ofString "states", .own 0)]
set_option tactic.hygienic false in
theorem st_on (m : Nat) {L : List Int} (hL : Lst L) {w : List Int} (hw : w ∈ ws) (w1 w2 w3 row : List Int) (o : T) : stepX (run (m + 20)) ⟨FN.starting_states.names⟩ (stG L w1 w2 w3 row o ++ [(Str.ofString "listed", .t (intsT w)), (Str.ofString "is_on", .t (.bool true))]) [.dict (L.map Key.i) (trues L)] (bodyOf (st .starting_states 2))
    = some (.next, stG L w1 w2 w3 row o ++ [(Str.ofString "listed", .t (intsT w)), (Str.ofString "is_on", .t (.bool true))], [.dict (L.map Key.i) (trues L)]) := by
  revert w
  intro w hw
  refine ws_ind (P := fun w => stepX (run (m + 20)) ⟨FN.starting_states.names⟩ (stG L w1 w2 w3 row o ++ [(Str.ofString "listed", .t (intsT w)), (Str.ofString "is_on", .t (.bool true))]) [.dict (L.map Key.i) (trues L)] (bodyOf (st .starting_states 2))
    = some (.next, stG L w1 w2 w3 row o ++ [(Str.ofString "listed", .t (intsT w)), (Str.ofString "is_on", .t (.bool true))], [.dict (L.map Key.i) (trues L)])) ?_ hw
  cases hL <;> (refine ⟨?_, ?_, ?_, ?_, ?_, ?_, ?_, ?_, ?_, ?_, ?_, ?_, ?_, ?_, ?_, ?_⟩ <;> kernel_rfl)
set_option tactic.hygienic false in
theorem st_off (m : Nat) {L : List Int} (hL : Lst L) {w : List Int} (hw : w ∈ ws) (w1 w2 w3 row : List Int) (o : T) : stepX (run (m + 20)) ⟨FN.starting_states.names⟩ (stG L w1 w2 w3 row o ++ [(Str.ofString "listed", .t (intsT w)), (Str.ofString "is_on", .t (.bool false))]) [.dict (L.map Key.i) (trues L)] (bodyOf (st .starting_states 2))
    = some (.next, stG L w1 w2 w3 row o ++ [(Str.ofString "listed", .t (intsT w)), (Str.ofString "is_on", .t (.bool false))], [.dict (L.map Key.i) (L.map fun n => .bool !(w.contains n))]) := by
  refine ws_ind (P := fun w => stepX (run (m + 20)) ⟨FN.starting_states.names⟩ (stG L w1 w2 w3 row o ++ [(Str.ofString "listed", .t (intsT w)), (Str.ofString "is_on", .t (.bool false))]) [.dict (L.map Key.i) (trues L)] (bodyOf (st .starting_states 2))
    = some (.next, stG L w1 w2 w3 row o ++ [(Str.ofString "listed", .t (intsT w)), (Str.ofString "is_on", .t (.bool false))], [.dict (L.map Key.i) (L.map fun n => .bool !(w.contains n))])) ?_ hw
  cases hL <;> (refine ⟨?_, ?_, ?_, ?_, ?_, ?_, ?_, ?_, ?_, ?_, ?_, ?_, ?_, ?_, ?_, ?_⟩ <;> kernel_rfl)
set_option tactic.hygienic false in
theorem states_ok (m : Nat) {L : List Int} (hL : Lst L) {w1 w2 : List Int} (h1 : w1 ∈ ws) (h2 : w2 ∈ ws) (w3 row : List Int) (o : T) : callT (run (m + 24)) .starting_states [intsT L, cfgT row w1 w2 w3 o] = some (statesT L w2) := by
  let G := stG L w1 w2 w3 row o
  refine callT_of (R := run (m + 23)) (b := [st .starting_states 0, st .starting_states 1, st .starting_states 2, st .starting_states 3]) (σ₁ := [.dict (L.map Key.i) (L.map fun n => .bool !(w2.contains n))]) (v := .own 0) (Γ₁ := G) (by kernel_rfl) (by kernel_rfl) rfl ?_ rfl
  refine x_next (Γ₁ := G) (σ₁ := [.dict [] []]) (by kernel_rfl) (x_next (Γ₁ := G) (σ₁ := [.dict (L.map Key.i) (trues L)]) (by cases hL <;> kernel_rfl) (x_next (Γ₁ := G) (σ₁ := [.dict (L.map Key.i) (L.map fun n => .bool !(w2.contains n))]) ?_ (x_ret (s_ret (e := exOf (st .starting_states 3)) (by kernel_rfl) (by kernel_rfl)))))
  refine s_for (tg := tgOf (st .starting_states 2)) (it := exOf (st .starting_states 2)) (body := bodyOf (st .starting_states 2)) (vs := [.tup [intsT w1, .bool true], .tup [intsT w2, .bool false]]) (σ₁ := [.dict (L.map Key.i) (trues L)]) (by kernel_rfl) (by kernel_rfl) ?_
  have e1 : (run (m + 23)).x ⟨FN.starting_states.names⟩ (stG L w1 w2 w3 row o ++ [(Str.ofString "listed", .t (intsT w1)), (Str.ofString "is_on", .t (.bool true))]) [.dict (L.map Key.i) (trues L)] (bodyOf (st .starting_states 2)) = _ := st_on (m + 2) hL h1 w1 w2 w3 row o
  have e2 : (run (m + 23)).x ⟨FN.starting_states.names⟩ (stG L w1 w2 w3 row o ++ [(Str.ofString "listed", .t (intsT w2)), (Str.ofString "is_on", .t (.bool false))]) [.dict (L.map Key.i) (trues L)] (bodyOf (st .starting_states 2)) = _ := st_off (m + 2) hL h2 w1 w2 w3 row o
  refine for_cons (by kernel_rfl) e1 ?_
  refine for_cons (Γ' := (stG L w1 w2 w3 row o ++ [(Str.ofString "listed", .t (intsT w2)), (Str.ofString "is_on", .t (.bool false))] : Ga)) (by kernel_rfl) e2 ?_
  exact for_nil.trans (by kernel_rfl)

/-- a row of the listed ones -/
inductive LRow : List Int → List Int → Prop
  | a0 : LRow [] []
  | b0 : LRow [10] []
  | b1 : LRow [10] [10]
  | c0 : LRow [10, 11] []
  | c1 : LRow [10, 11] [10]
  | c2 : LRow [10, 11] [11]
  | c3 : LRow [10, 11] [10, 11]
  | d0 : LRow [10, 11, 12] []
  | d1 : LRow [10, 11, 12] [10]
  | d2 : LRow [10, 11, 12] [11]
  | d3 : LRow [10, 11, 12] [12]
  | d4 : LRow [10, 11, 12] [10, 11]
  | d5 : LRow [10, 11, 12] [10, 12]
  | d6 : LRow [10, 11, 12] [11, 12]
  | d7 : LRow [10, 11, 12] [10, 11, 12]
set_option tactic.hygienic false in
theorem LRow.lst {L r : List Int} (h : LRow L r) : Lst L := by cases h <;> constructor
set_option tactic.hygienic false in
theorem LRow.ws {L r : List Int} (h : LRow L r) : r ∈ ws := by cases h <;> decide
/-- more than one of the row is on -/
noncomputable def crowd (row w : List Int) : Bool := decide (1 < (row.filter fun n => !(w.contains n)).length)
noncomputable def spotsT (b : Bool) : T := .list (if b then [.int 0] else [])
set_option tactic.hygienic false in
theorem crowd_ok (m : Nat) {L row : List Int} (h : LRow L row) {w2 : List Int} (h2 : w2 ∈ ws) (w1 w2' w3 : List Int) (o : T) : callT (run (m + 20)) .crowded_rows [statesT L w2, cfgT row w1 w2' w3 o] = some (spotsT (crowd row w2)) := by
  refine ws_ind (P := fun w2 => callT (run (m + 20)) .crowded_rows [statesT L w2, cfgT row w1 w2' w3 o] = some (spotsT (crowd row w2))) ?_ h2
  cases h <;> (refine ⟨?_, ?_, ?_, ?_, ?_, ?_, ?_, ?_, ?_, ?_, ?_, ?_, ?_, ?_, ?_, ?_⟩ <;> kernel_rfl)
end Mine
end
section
set_option maxRecDepth 100000
set_option autoImplicit false
namespace Mine
open PySem

noncomputable def mOf : Expr → Expr × Str × Pos × List Expr × Pos
  | .Call (.Attribute o n ap) args _ p => (o, n, ap, args, p)
  | _ => (noE, Str.ofString "", ⟨0, 0, 0, 0⟩, [], ⟨0, 0, 0, 0⟩)
section
variable {R : Rec} {cx : Cx} {Γ Γ' Γ₁ : Ga} {σ σ₁ σ₂ σ₃ : Sg}
set_option tactic.hygienic false in
theorem s_expr {s : Stmt} (h : stepS R cx Γ σ s = (match R.e cx Γ σ (exOf s) with
    | some (.t .none, σ) => some (.next, Γ, σ)
    | _ => none)) (h1 : R.e cx Γ σ (exOf s) = some (.t .none, σ₁)) : stepS R cx Γ σ s = some (.next, Γ, σ₁) := by
  rw [h, h1]
set_option tactic.hygienic false in
theorem mth_append {o : Expr} {n : Str} {ap p : Pos} {args : List Expr} {i : Nat} {ts ts' : List T} {t : T} (hn : n = Str.ofString "append") (h0 : (plainBase o && Nat.beq ap.endLine p.line && Nat.blt args.length 25) = true)
    (h1 : R.e cx Γ σ o = some (.own i, σ)) (h3 : σ[i]? = some (.list ts)) (h2 : evs R cx Γ σ args = some ([.t t], σ₁)) (h4 : σ₁[i]? = some (.list ts')) (hz : sizeOk ts'.length = true) :
    mthE R cx Γ σ o n ap args p = some (.t .none, σ₁.set i (.list (ts' ++ [t]))) := by
  subst hn
  have hc : clsOf σ (.own i) = none := by simp only [clsOf, h3]
  have hm : mkOf σ (.own i) = some .list := by simp only [mkOf, h3]
  have hk : mkOk (Str.ofString "append") (some .list) = true := by decide +kernel
  have hs : sEq (Str.ofString "append") (Str.ofString "append") = true := sEq_refl _
  have hM : callM σ₁ (.own i) (Str.ofString "append") [.t t] = some (.t .none, σ₁.set i (.list (ts' ++ [t]))) := by
    unfold callM
    rw [if_pos hs]
    simp only [appendM, frz, h4, hz, if_true]
  simp only [mthE, h0, h1, hc, hm, hk, h2, hM]
set_option tactic.hygienic false in
theorem mth_extend {o : Expr} {n : Str} {ap p : Pos} {args : List Expr} {i : Nat} {ts ts' us : List T} {v : AV} (hn : n = Str.ofString "extend") (h0 : (plainBase o && Nat.beq ap.endLine p.line && Nat.blt args.length 25) = true)
    (h1 : R.e cx Γ σ o = some (.own i, σ)) (h3 : σ[i]? = some (.list ts)) (h2 : evs R cx Γ σ args = some ([v], σ₁)) (h5 : frz σ₁ v = some (.list us, σ₂)) (h4 : σ₂[i]? = some (.list ts')) (hz : sizeOk (ts'.length + us.length) = true) :
    mthE R cx Γ σ o n ap args p = some (.t .none, σ₂.set i (.list (ts' ++ us))) := by
  subst hn
  have hc : clsOf σ (.own i) = none := by simp only [clsOf, h3]
  have hm : mkOf σ (.own i) = some .list := by simp only [mkOf, h3]
  have hk : mkOk (Str.ofString "extend") (some .list) = true := by decide +kernel
  have hs : sEq (Str.ofString "extend") (Str.ofString "extend") = true := sEq_refl _
  have hs2 : ¬ (sEq (Str.ofString "extend") (Str.ofString "append") = true) := by decide +kernel
  have hM : callM σ₁ (.own i) (Str.ofString "extend") [v] = some (.t .none, σ₂.set i (.list (ts' ++ us))) := by
    unfold callM
    rw [if_neg hs2, if_pos hs]
    simp only [extendM, h5, h4, hz, if_true]
  simp only [mthE, h0, h1, hc, hm, hk, h2, hM]
/-  what a call hands to a loop -/
set_option tactic.hygienic false in
theorem src_call {e : Expr} {v : AV} {t : T} {l : List T} (h : srcE R cx Γ σ e = (match R.e cx Γ σ e with
    | some (v, σ) => (match frz σ v with
      | some (t, σ) => (itemsOf t).map fun l => (l, σ)
      | none => none)
    | none => none)) (h1 : R.e cx Γ σ e = some (v, σ₁)) (h2 : frz σ₁ v = some (t, σ₂)) (h3 : itemsOf t = some l) : srcE R cx Γ σ e = some (l, σ₂) := by
  rw [h, h1]; simp only [h2, h3, Option.map_some]
end
theorem sizeOk_of {n : Nat} (h : n ≤ 1000) : sizeOk n = true := Nat.ble_eq_true_of_le h

set_option tactic.hygienic false in
theorem bis_new {R : Rec} {σ σ₁ : Sg} {b : BI} {as : List AV} {ts : List T} {o : OObj} (hl : isLen b = false) (h3 : frzs σ as = some (ts, σ₁)) (h4 : callBi b ts = some (.new o)) : callV R (.bi b) as σ = some (.own σ₁.length, σ₁ ++ [o]) := by
  simp only [callV, hl, bisV, h3, h4, Option.map_some, ansV]
set_option tactic.hygienic false in
theorem bis_t {R : Rec} {σ σ₁ : Sg} {b : BI} {as : List AV} {ts : List T} {r : T} (hl : isLen b = false) (h3 : frzs σ as = some (ts, σ₁)) (h4 : callBi b ts = some (.t r)) : callV R (.bi b) as σ = some (.t r, σ₁) := by
  simp only [callV, hl, bisV, h3, h4, Option.map_some, ansV]
theorem tuple_bi {ts : List T} (h : ts.length ≤ 1000) : callBi .tuple [.list ts] = some (.t (.tup ts)) := if_pos (sizeOk_of h)
theorem list_bi {ts : List T} (h : ts.length ≤ 1000) : callBi .list [.list ts] = some (.new (.list ts)) := if_pos (sizeOk_of h)
theorem len_bi {ts : List T} (h : ts.length ≤ 1000) : callBi .len [.list ts] = some (.t (.int ts.length)) := if_pos (sizeOk_of h)
theorem sorted_bi {ks : List Key} {ts : List T} (h : Nat.blt ks.length 64 = true) : callBi .sorted [.dict ks ts] = some (.t (.list ((sortK ks).map keyT))) := if_pos h

/-! layer_faults -/
noncomputable def tells (W : Str) (n : Int) : Str := catS (catS (catS W (Str.ofString " tells ")) (textInt n)) (Str.ofString ", which is not listed")
noncomputable def tellS (L : List Int) (W : Str) (n : Int) : List Str := if L.contains n then [] else [tells W n]
noncomputable def tl (L : List Int) (W : Str) (w : List Int) : List Str := w.flatMap (tellS L W)
noncomputable def strsT (l : List Str) : List T := l.map T.str
set_option tactic.hygienic false in
theorem tl_len (L : List Int) (W : Str) : ∀ w, (tl L W w).length ≤ w.length
  | [] => Nat.zero_le _
  | n :: w => by
    have := tl_len L W w
    unfold tl at *
    rw [List.flatMap_cons, List.length_append, List.length_cons]
    have : (tellS L W n).length ≤ 1 := by unfold tellS; split <;> simp
    omega
inductive Wd : Str → Prop
  | on : Wd (Str.ofString "ON")
  | off : Wd (Str.ofString "OFF")
  | locked : Wd (Str.ofString "Locked")
inductive Nm : Int → Prop
  | n10 : Nm 10
  | n11 : Nm 11
  | n12 : Nm 12
  | n13 : Nm 13
set_option tactic.hygienic false in
theorem ws_nm {w : List Int} (h : w ∈ ws) : ∀ n ∈ w, Nm n := by
  refine ws_ind (P := fun w => ∀ n ∈ w, Nm n) ?_ h
  refine ⟨?_, ?_, ?_, ?_, ?_, ?_, ?_, ?_, ?_, ?_, ?_, ?_, ?_, ?_, ?_, ?_⟩ <;> intro n hn <;> simp only [List.mem_cons, List.not_mem_nil, or_false] at hn <;> first | (rcases hn with rfl | rfl | rfl | rfl <;> constructor) | (rcases hn with rfl | rfl | rfl <;> constructor) | (rcases hn with rfl | rfl <;> constructor) | (subst hn; constructor)
set_option tactic.hygienic false in
theorem ws_len {w : List Int} (h : w ∈ ws) : w.length ≤ 4 := by
  refine ws_ind (P := fun w => w.length ≤ 4) ?_ h
  decide

noncomputable def lfG (sh : T) (L : List Int) (C : T) : Ga := [(Str.ofString "shelf", .t sh), (Str.ofString "known", .t (intsT L)), (Str.ofString "config", .t C), (Str.ofString "faults", .own 0)]
noncomputable def lfW (sh : T) (L : List Int) (C : T) (W : Str) (w : T) : Ga := lfG sh L C ++ [(Str.ofString "word", .t (.str W)), (Str.ofString "numbers", .t w)]
noncomputable def lfI : Stmt := nth (bodyOf (st .layer_faults 3)) 0
noncomputable abbrev lfC : Cx := ⟨FN.layer_faults.names⟩

set_option tactic.hygienic false in
theorem lf_elem (m : Nat) (sh C w : T) {L : List Int} (hL : Lst L) {W : Str} (hW : Wd W) {n : Int} (hn : Nm n) (acc : List T) (ha : acc.length ≤ 500) :
    stepX (run (m + 20)) lfC (lfW sh L C W w ++ [(Str.ofString "number", .t (.int n))]) [.list acc] (bodyOf lfI) = some (.next, lfW sh L C W w ++ [(Str.ofString "number", .t (.int n))], [.list (acc ++ strsT (tellS L W n))]) := by
  have e0 : bodyOf lfI = [nth (bodyOf lfI) 0] := by kernel_rfl
  rw [e0]
  have key : ∀ (hk : L.contains n = false), (run (m + 20)).x lfC (lfW sh L C W w ++ [(Str.ofString "number", .t (.int n))]) [.list acc] (bodyOf (nth (bodyOf lfI) 0)) = some (.next, lfW sh L C W w ++ [(Str.ofString "number", .t (.int n))], [.list (acc ++ strsT (tellS L W n))]) := by
    intro hk
    refine (x_run (m + 19) _ _ _ _).trans ?_
    rw [show bodyOf (nth (bodyOf lfI) 0) = [nth (bodyOf (nth (bodyOf lfI) 0)) 0] from by kernel_rfl]
    let s := nth (bodyOf (nth (bodyOf lfI) 0)) 0
    have ht : strsT (tellS L W n) = [.str (tells W n)] := by unfold tellS; rw [if_neg (by rw [hk]; decide)]; rfl
    rw [ht]
    refine x_next (s_expr (by kernel_rfl) ?_) rfl
    refine (e_run (m + 18) lfC (lfW sh L C W w ++ [(Str.ofString "number", .t (.int n))]) [.list acc] (exOf s)).trans ?_
    rw [show ∀ (Γ : Ga) (σ : Sg), stepE (run (m + 18)) lfC Γ σ (exOf s) = mthE (run (m + 18)) lfC Γ σ (mOf (exOf s)).1 (mOf (exOf s)).2.1 (mOf (exOf s)).2.2.1 (mOf (exOf s)).2.2.2.1 (mOf (exOf s)).2.2.2.2 from fun _ _ => by kernel_rfl]
    refine mth_append (i := 0) (ts := acc) (ts' := acc) (t := .str (tells W n)) (σ₁ := [.list acc]) (by kernel_rfl) (by kernel_rfl) (by kernel_rfl) rfl ?_ rfl (sizeOk_of (by omega))
    cases hW <;> cases hn <;> kernel_rfl
  cases hk : L.contains n with
  | false =>
    refine x_next (s_if (c := exOf (nth (bodyOf lfI) 0)) (a := bodyOf (nth (bodyOf lfI) 0)) (b := []) (k := true) (σ₁ := [.list acc]) (by kernel_rfl) ?_ (key hk)) rfl
    revert hk
    cases hL <;> cases hn <;> intro hk <;> first | (cases hk; done) | kernel_rfl
  | true =>
    have ht : strsT (tellS L W n) = [] := by unfold tellS; rw [if_pos hk]; rfl
    rw [ht, List.append_nil]
    refine x_next (s_if (c := exOf (nth (bodyOf lfI) 0)) (a := bodyOf (nth (bodyOf lfI) 0)) (b := []) (k := false) (σ₁ := [.list acc]) (by kernel_rfl) ?_ (by kernel_rfl)) rfl
    revert hk
    cases hL <;> cases hn <;> intro hk <;> first | (cases hk; done) | kernel_rfl

set_option tactic.hygienic false in
theorem lf_loop (m : Nat) (sh C w0 : T) {L : List Int} (hL : Lst L) {W : Str} (hW : Wd W) : ∀ (w : List Int) (_ : ∀ n ∈ w, Nm n) (acc : List T) (_ : acc.length + w.length ≤ 400) (Γ : Ga) (_ : Γ = lfW sh L C W w0 ∨ ∃ v, Γ = lfW sh L C W w0 ++ [(Str.ofString "number", v)]),
    forL (run (m + 21)) lfC (tgOf lfI) (bodyOf lfI) Γ [.list acc] (w.map .int) = some (.next, lfW sh L C W w0, [.list (acc ++ strsT (tl L W w))])
  | [], _, acc, _, Γ, hΓ => by
    rw [show strsT (tl L W []) = [] from rfl, List.append_nil]
    rcases hΓ with rfl | ⟨v, rfl⟩
    · exact for_nil.trans (by kernel_rfl)
    · exact for_nil.trans (by kernel_rfl)
  | n :: w, hN, acc, ha, Γ, hΓ => by
    rw [List.length_cons] at ha
    have e1 : (run (m + 21)).x lfC (lfW sh L C W w0 ++ [(Str.ofString "number", .t (.int n))]) [.list acc] (bodyOf lfI) = _ := lf_elem m sh C w0 hL hW (hN n (.head _)) acc (by omega)
    have hl : (strsT (tellS L W n)).length ≤ 1 := by unfold strsT tellS; rw [List.length_map]; split <;> simp
    have ih := lf_loop m sh C w0 hL hW w (fun x hx => hN x (.tail _ hx)) (acc ++ strsT (tellS L W n)) (by rw [List.length_append]; omega) _ (.inr ⟨.t (.int n), rfl⟩)
    have e2 : acc ++ strsT (tl L W (n :: w)) = acc ++ strsT (tellS L W n) ++ strsT (tl L W w) := by
      unfold tl strsT; rw [List.flatMap_cons, List.map_append, List.append_assoc]
    rw [e2]
    refine for_cons ?_ e1 ih
    rcases hΓ with rfl | ⟨v, rfl⟩ <;> kernel_rfl
end Mine
end
section
set_option maxRecDepth 100000
set_option autoImplicit false
namespace Mine
open PySem

section
variable {R : Rec} {cx : Cx} {Γ Γ' Γ₁ : Ga} {σ σ₁ σ₂ σ₃ : Sg}
set_option tactic.hygienic false in
theorem s_asgC {s : Stmt} {x : Str} {elt tg it : Expr} {ifs : List Expr} {sc : Scope} {ts : List T} (h : stepS R cx Γ σ s = asgCS R cx Γ σ x elt tg it ifs sc) (h1 : compE R cx Γ σ elt tg it ifs sc = some (ts, σ₁)) (h2 : bindN cx x (.own σ₁.length) Γ = some Γ') :
    stepS R cx Γ σ s = some (.next, Γ', σ₁ ++ [.list ts]) := by
  rw [h]; simp only [asgCS, h1, h2]
end
noncomputable def crowdS (b : Bool) : List Str := if b then [Str.ofString "more than one group is on in the row 0"] else []
noncomputable def oW : Str := Str.ofString "Order"
noncomputable def LF (L row w1 w2 w3 w4 : List Int) : List Str := tl L (Str.ofString "ON") w1 ++ tl L (Str.ofString "OFF") w2 ++ tl L (Str.ofString "Locked") w3 ++ crowdS (crowd row w2) ++ tl L oW w4

section
variable (m : Nat) {L row w1 w2 w3 w4 : List Int} {F : List T} (hR : LRow L row) (hF : Few F) (h1 : w1 ∈ ws) (h2 : w2 ∈ ws) (h3 : w3 ∈ ws) (h4 : w4 ∈ ws)
noncomputable def fstT (row w1 w2 w3 w4 : List Int) : T := firstT (refsT w1) (refsT w2) (refsT w3) (refsT w4) (refsT row)
noncomputable def shL (L row w1 w2 w3 w4 : List Int) (F : List T) : T := shT (refsT L) (fstT row w1 w2 w3 w4) F

include hR hF h1 h2 h3 h4
set_option tactic.hygienic false in
theorem lf_words (acc : List T) (hacc : acc = []) : stepS (run (m + 59)) lfC (lfG (shL L row w1 w2 w3 w4 F) L (cfgT row w1 w2 w3 (refsT w4))) [.list acc] (st .layer_faults 3)
    = some (.next, lfG (shL L row w1 w2 w3 w4 F) L (cfgT row w1 w2 w3 (refsT w4)), [.list (strsT (tl L (Str.ofString "ON") w1) ++ strsT (tl L (Str.ofString "OFF") w2) ++ strsT (tl L (Str.ofString "Locked") w3))]) := by
  subst hacc
  let sh := shL L row w1 w2 w3 w4 F
  let C := cfgT row w1 w2 w3 (refsT w4)
  have inner : ∀ (W : Str) (_ : Wd W) (w : List Int) (_ : w ∈ ws) (acc : List T) (_ : acc.length ≤ 100), (run (m + 59)).x lfC (lfW sh L C W (intsT w)) [.list acc] (bodyOf (st .layer_faults 3)) = some (.next, lfW sh L C W (intsT w), [.list (acc ++ strsT (tl L W w))]) := by
    intro W hW w hw acc ha
    refine (x_run (m + 58) lfC (lfW sh L C W (intsT w)) [.list acc] (bodyOf (st .layer_faults 3))).trans ?_
    rw [show bodyOf (st .layer_faults 3) = [lfI] from by kernel_rfl]
    refine x_next (s_for (tg := tgOf lfI) (it := exOf lfI) (body := bodyOf lfI) (vs := w.map .int) (σ₁ := [.list acc]) (by kernel_rfl) (by kernel_rfl) (lf_loop (m + 37) sh C (intsT w) hR.lst hW w (ws_nm hw) acc (by have := ws_len hw; omega) _ (.inl rfl))) rfl
  have l1 : (strsT (tl L (Str.ofString "ON") w1)).length ≤ 4 := by unfold strsT; rw [List.length_map]; exact Nat.le_trans (tl_len ..) (ws_len h1)
  have l2 : (strsT (tl L (Str.ofString "OFF") w2)).length ≤ 4 := by unfold strsT; rw [List.length_map]; exact Nat.le_trans (tl_len ..) (ws_len h2)
  refine s_for (tg := tgOf (st .layer_faults 3)) (it := exOf (st .layer_faults 3)) (body := bodyOf (st .layer_faults 3)) (vs := [.tup [.str (Str.ofString "ON"), intsT w1], .tup [.str (Str.ofString "OFF"), intsT w2], .tup [.str (Str.ofString "Locked"), intsT w3]]) (σ₁ := [.list []]) (by kernel_rfl) (by kernel_rfl) ?_
  refine for_cons (Γ' := lfW sh L C (Str.ofString "ON") (intsT w1)) (by kernel_rfl) (inner _ .on w1 h1 [] (by simp)) ?_
  refine for_cons (Γ' := lfW sh L C (Str.ofString "OFF") (intsT w2)) (by kernel_rfl) (inner _ .off w2 h2 _ (by rw [List.nil_append]; omega)) ?_
  refine for_cons (Γ' := lfW sh L C (Str.ofString "Locked") (intsT w3)) (by kernel_rfl) (inner _ .locked w3 h3 _ (by rw [List.nil_append, List.length_append]; omega)) ?_
  rw [List.nil_append]
  exact for_nil.trans (by kernel_rfl)

set_option tactic.hygienic false in
theorem lf_crowd (acc : List T) (ha : acc.length ≤ 100) : stepS (run (m + 59)) lfC (lfG (shL L row w1 w2 w3 w4 F) L (cfgT row w1 w2 w3 (refsT w4))) [.list acc] (st .layer_faults 4)
    = some (.next, lfG (shL L row w1 w2 w3 w4 F) L (cfgT row w1 w2 w3 (refsT w4)), [.list (acc ++ strsT (crowdS (crowd row w2)))]) := by
  let sh := shL L row w1 w2 w3 w4 F
  let C := cfgT row w1 w2 w3 (refsT w4)
  let G := lfG sh L C
  let E := exOf (st .layer_faults 4)
  have hc : (run (m + 59)).e lfC G [.list acc] E = some (.t (spotsT (crowd row w2)), [.list acc]) := by
    refine (e_run (m + 58) lfC G [.list acc] E).trans ?_
    rw [show stepE (run (m + 58)) lfC G [.list acc] E = calE (run (m + 58)) lfC G [.list acc] (Str.ofString "crowded_rows") (argsOf E) from by kernel_rfl]
    refine cal_pure (f := .crowded_rows) (as := [.t (statesT L w2), .t C]) (σ₁ := [.list acc]) (by kernel_rfl) (by kernel_rfl) ?_ rfl (crowd_ok (m + 38) hR h2 w1 w2 w3 _)
    rw [show argsOf E = [arg E 0, arg E 1] from by kernel_rfl]
    refine evs_cons (σ₁ := [.list acc]) (by kernel_rfl) ?_ (evs_cons (σ₁ := [.list acc]) (by kernel_rfl) (by kernel_rfl) rfl)
    refine (e_run (m + 57) lfC G [.list acc] (arg E 0)).trans ?_
    rw [show stepE (run (m + 57)) lfC G [.list acc] (arg E 0) = calE (run (m + 57)) lfC G [.list acc] (Str.ofString "starting_states") (argsOf (arg E 0)) from by kernel_rfl]
    exact cal_pure (f := .starting_states) (as := [.t (intsT L), .t C]) (by kernel_rfl) (by kernel_rfl) (by kernel_rfl) rfl (states_ok (m + 33) hR.lst h1 h2 w3 row _)
  refine s_for (tg := tgOf (st .layer_faults 4)) (it := E) (body := bodyOf (st .layer_faults 4)) (vs := if crowd row w2 then [.int 0] else []) (σ₁ := [.list acc]) (by kernel_rfl) (src_call (by kernel_rfl) hc rfl (by unfold spotsT; rfl)) ?_
  cases crowd row w2 with
  | false =>
    rw [if_neg (by decide), show strsT (crowdS false) = [] from rfl, List.append_nil]
    exact for_nil.trans (by kernel_rfl)
  | true =>
    rw [if_pos rfl]
    refine for_cons (Γ' := G ++ [(Str.ofString "spot", .t (.int 0))]) (Γ₁ := G ++ [(Str.ofString "spot", .t (.int 0))]) (σ₁ := [.list (acc ++ strsT (crowdS true))]) (by kernel_rfl) ?_ (for_nil.trans (by kernel_rfl))
    refine (x_run (m + 58) lfC (G ++ [(Str.ofString "spot", .t (.int 0))]) [.list acc] (bodyOf (st .layer_faults 4))).trans ?_
    let s := nth (bodyOf (st .layer_faults 4)) 0
    rw [show bodyOf (st .layer_faults 4) = [s] from by kernel_rfl]
    refine x_next (s_expr (by kernel_rfl) ?_) rfl
    refine (e_run (m + 57) lfC (G ++ [(Str.ofString "spot", .t (.int 0))]) [.list acc] (exOf s)).trans ?_
    rw [show ∀ (Γ : Ga) (σ : Sg), stepE (run (m + 57)) lfC Γ σ (exOf s) = mthE (run (m + 57)) lfC Γ σ (mOf (exOf s)).1 (mOf (exOf s)).2.1 (mOf (exOf s)).2.2.1 (mOf (exOf s)).2.2.2.1 (mOf (exOf s)).2.2.2.2 from fun _ _ => by kernel_rfl]
    exact mth_append (i := 0) (ts := acc) (ts' := acc) (t := .str (Str.ofString "more than one group is on in the row 0")) (σ₁ := [.list acc]) (by kernel_rfl) (by kernel_rfl) (by kernel_rfl) rfl (by kernel_rfl) rfl (sizeOk_of (by omega))

set_option tactic.hygienic false in
theorem lf_order (acc : List T) (ha : acc.length ≤ 100) : ∃ σ, stepS (run (m + 59)) lfC (lfG (shL L row w1 w2 w3 w4 F) L (cfgT row w1 w2 w3 (refsT w4))) [.list acc] (st .layer_faults 5)
    = some (.next, lfG (shL L row w1 w2 w3 w4 F) L (cfgT row w1 w2 w3 (refsT w4)) ++ [(Str.ofString "listed", .own 1)], .list (acc ++ strsT (tl L oW w4)) :: σ) := by
  let sh := shL L row w1 w2 w3 w4 F
  let C := cfgT row w1 w2 w3 (refsT w4)
  let G := lfG sh L C
  let t0 := nth (bodyOf (st .layer_faults 5)) 0
  let t1 := nth (bodyOf (st .layer_faults 5)) 1
  let E0 := exOf t0
  let g0 := genOf E0
  let M := mOf (exOf t1)
  let E1 := arg (exOf t1) 0
  let g1 := genOf E1
  have hl4 : (tl L oW w4).length ≤ 4 := Nat.le_trans (tl_len ..) (ws_len h4)
  refine ⟨[.frz (intsT w4), .frz (.list (strsT (tl L oW w4)))], ?_⟩
  rw [show ∀ (Γ : Ga) (σ : Sg), stepS (run (m + 59)) lfC Γ σ (st .layer_faults 5) = stepX (run (m + 58)) lfC Γ σ (bodyOf (st .layer_faults 5)) from fun _ _ => by kernel_rfl]
  rw [show bodyOf (st .layer_faults 5) = [t0, t1] from by kernel_rfl]
  have hord : (run (m + 58)).e lfC G [.list acc] g0.2.1 = some (.t (orderT w4), [.list acc]) := by
    refine (e_run (m + 57) lfC G [.list acc] g0.2.1).trans ?_
    rw [show stepE (run (m + 57)) lfC G [.list acc] g0.2.1 = calE (run (m + 57)) lfC G [.list acc] (Str.ofString "order_rows") (argsOf g0.2.1) from by kernel_rfl]
    exact cal_pure (f := .order_rows) (as := [.t sh, .t (refsT w4)]) (σ₁ := [.list acc]) (by kernel_rfl) (by kernel_rfl) (by kernel_rfl) rfl (order_ok (m + 33) _ _ _ h4)
  refine x_next (Γ₁ := G ++ [(Str.ofString "listed", .own 1)]) (σ₁ := [.list acc] ++ [.list (w4.map .int)]) (s_asgC (x := Str.ofString "listed") (elt := eltOf E0) (tg := g0.1) (it := g0.2.1) (ifs := g0.2.2.1) (sc := g0.2.2.2) (σ₁ := [.list acc]) (by kernel_rfl) ?_ (by kernel_rfl)) ?_
  · refine comp_e (vs := w4.map fun n => .tup [.str (Str.ofString "group"), .int 0, .int n]) (σ₁ := [.list acc]) (by kernel_rfl) (src_call (by kernel_rfl) hord rfl rfl) ?_ ?_
    · rw [List.length_map]; exact Nat.ble_eq_true_of_le (by have := ws_len h4; omega)
    · refine ws_ind (P := fun w4 => compL (run (m + 58)) ⟨g0.2.2.2.names⟩ g0.1 (eltOf E0) g0.2.2.1 (freeOf g0.2.2.2.names G) [.list acc] (w4.map fun n => .tup [.str (Str.ofString "group"), .int 0, .int n]) = some (w4.map .int, [.list acc])) ?_ h4
      refine ⟨?_, ?_, ?_, ?_, ?_, ?_, ?_, ?_, ?_, ?_, ?_, ?_, ?_, ?_, ?_, ?_⟩ <;> kernel_rfl
  · refine x_next (s_expr (by kernel_rfl) ?_) rfl
    refine (e_run (m + 57) lfC (G ++ [(Str.ofString "listed", .own 1)]) [.list acc, .list (w4.map .int)] (exOf t1)).trans ?_
    rw [show ∀ (Γ : Ga) (σ : Sg), stepE (run (m + 57)) lfC Γ σ (exOf t1) = mthE (run (m + 57)) lfC Γ σ M.1 M.2.1 M.2.2.1 M.2.2.2.1 M.2.2.2.2 from fun _ _ => by kernel_rfl]
    refine mth_extend (i := 0) (ts := acc) (ts' := acc) (us := strsT (tl L oW w4)) (v := .own 2) (σ₁ := [.list acc, .frz (intsT w4), .list (strsT (tl L oW w4))]) (σ₂ := [.list acc, .frz (intsT w4), .frz (.list (strsT (tl L oW w4)))]) (by kernel_rfl) (by kernel_rfl) (by kernel_rfl) rfl ?_ rfl rfl (sizeOk_of (by unfold strsT; rw [List.length_map]; omega))
    rw [show M.2.2.2.1 = [E1] from by kernel_rfl]
    refine evs_cons (σ₁ := [.list acc, .frz (intsT w4), .list (strsT (tl L oW w4))]) (by kernel_rfl) ?_ rfl
    refine (e_run (m + 56) lfC (G ++ [(Str.ofString "listed", .own 1)]) [.list acc, .list (w4.map .int)] E1).trans ?_
    rw [show ∀ (Γ : Ga) (σ : Sg), stepE (run (m + 56)) lfC Γ σ E1 = lcE (run (m + 56)) lfC Γ σ (eltOf E1) g1.1 g1.2.1 g1.2.2.1 g1.2.2.2 from fun _ _ => by kernel_rfl]
    refine lc_e (σ₁ := [.list acc, .frz (intsT w4)]) (comp_e (vs := w4.map .int) (σ₁ := [.list acc, .frz (intsT w4)]) (by kernel_rfl) (by kernel_rfl) ?_ ?_)
    · rw [List.length_map]; exact Nat.ble_eq_true_of_le (by have := ws_len h4; omega)
    · have hL := hR.lst
      refine ws_ind (P := fun w4' => compL (run (m + 56)) ⟨g1.2.2.2.names⟩ g1.1 (eltOf E1) g1.2.2.1 (freeOf g1.2.2.2.names (G ++ [(Str.ofString "listed", .own 1)])) [.list acc, .frz (intsT w4)] (w4'.map .int) = some (strsT (tl L oW w4'), [.list acc, .frz (intsT w4)])) ?_ h4
      revert hL
      clear hord
      intro hL
      have : ∀ (L' : List Int) (_ : Lst L') (Γ : Ga) (_ : Γ = [(Str.ofString "known", AV.t (intsT L'))]) (w4' : List Int) (_ : w4' ∈ ws), compL (run (m + 56)) ⟨g1.2.2.2.names⟩ g1.1 (eltOf E1) g1.2.2.1 Γ [.list acc, .frz (intsT w4)] (w4'.map .int) = some (strsT (tl L' oW w4'), [.list acc, .frz (intsT w4)]) := by
        intro L' hL' Γ hΓ w4' hw
        subst hΓ
        refine ws_ind (P := fun w4' => compL (run (m + 56)) ⟨g1.2.2.2.names⟩ g1.1 (eltOf E1) g1.2.2.1 [(Str.ofString "known", AV.t (intsT L'))] [.list acc, .frz (intsT w4)] (w4'.map .int) = some (strsT (tl L' oW w4'), [.list acc, .frz (intsT w4)])) ?_ hw
        cases hL' <;> (refine ⟨?_, ?_, ?_, ?_, ?_, ?_, ?_, ?_, ?_, ?_, ?_, ?_, ?_, ?_, ?_, ?_⟩ <;> kernel_rfl)
      have hΓ : freeOf g1.2.2.2.names (G ++ [(Str.ofString "listed", .own 1)]) = [(Str.ofString "known", AV.t (intsT L))] := by kernel_rfl
      refine ⟨?_, ?_, ?_, ?_, ?_, ?_, ?_, ?_, ?_, ?_, ?_, ?_, ?_, ?_, ?_, ?_⟩ <;> exact this L hL _ hΓ _ (by decide)

set_option tactic.hygienic false in
theorem layers_ok : callT (run (m + 60)) .layer_faults [shL L row w1 w2 w3 w4 F] = some (.list (strsT (LF L row w1 w2 w3 w4))) := by
  let sh := shL L row w1 w2 w3 w4 F
  let C := cfgT row w1 w2 w3 (refsT w4)
  let W3 := strsT (tl L (Str.ofString "ON") w1) ++ strsT (tl L (Str.ofString "OFF") w2) ++ strsT (tl L (Str.ofString "Locked") w3)
  have l1 : (strsT (tl L (Str.ofString "ON") w1)).length ≤ 4 := by unfold strsT; rw [List.length_map]; exact Nat.le_trans (tl_len ..) (ws_len h1)
  have l2 : (strsT (tl L (Str.ofString "OFF") w2)).length ≤ 4 := by unfold strsT; rw [List.length_map]; exact Nat.le_trans (tl_len ..) (ws_len h2)
  have l3 : (strsT (tl L (Str.ofString "Locked") w3)).length ≤ 4 := by unfold strsT; rw [List.length_map]; exact Nat.le_trans (tl_len ..) (ws_len h3)
  have hW3 : W3.length ≤ 12 := by show (_ ++ _ ++ _ : List T).length ≤ _; rw [List.length_append, List.length_append]; omega
  have hcr : (strsT (crowdS (crowd row w2))).length ≤ 1 := by unfold strsT crowdS; rw [List.length_map]; split <;> simp
  obtain ⟨σ, ho⟩ := lf_order m hR hF h1 h2 h3 h4 (W3 ++ strsT (crowdS (crowd row w2))) (by rw [List.length_append]; omega)
  refine callT_of (R := run (m + 59)) (b := [st .layer_faults 0, st .layer_faults 1, st .layer_faults 2, st .layer_faults 3, st .layer_faults 4, st .layer_faults 5, st .layer_faults 6]) (v := .own 0) (Γ₁ := lfG sh L C ++ [(Str.ofString "listed", .own 1)])
    (σ₁ := .list (W3 ++ strsT (crowdS (crowd row w2)) ++ strsT (tl L oW w4)) :: σ) (by kernel_rfl) (by kernel_rfl) rfl ?_ ?_
  · refine x_next (Γ₁ := [(Str.ofString "shelf", .t sh), (Str.ofString "known", .t (intsT L))]) (σ₁ := []) (s_asg (x := Str.ofString "known") (e := exOf (st .layer_faults 0)) (v := .t (intsT L)) (by kernel_rfl) (by kernel_rfl) ?_ (by kernel_rfl)) ?_
    · refine (e_run (m + 58) lfC [(Str.ofString "shelf", .t sh)] [] (exOf (st .layer_faults 0))).trans ?_
      rw [show stepE (run (m + 58)) lfC [(Str.ofString "shelf", .t sh)] [] (exOf (st .layer_faults 0)) = calE (run (m + 58)) lfC [(Str.ofString "shelf", .t sh)] [] (Str.ofString "group_numbers") (argsOf (exOf (st .layer_faults 0))) from by kernel_rfl]
      exact cal_pure (f := .group_numbers) (as := [.t sh]) (by kernel_rfl) (by kernel_rfl) (by kernel_rfl) rfl (numbers_ok (m + 28) hR.lst _ hF)
    refine x_next (Γ₁ := [(Str.ofString "shelf", .t sh), (Str.ofString "known", .t (intsT L)), (Str.ofString "config", .t C)]) (σ₁ := []) (s_asg (x := Str.ofString "config") (e := exOf (st .layer_faults 1)) (v := .t C) (by kernel_rfl) (by kernel_rfl) ?_ (by kernel_rfl)) ?_
    · refine (e_run (m + 58) lfC [(Str.ofString "shelf", .t sh), (Str.ofString "known", .t (intsT L))] [] (exOf (st .layer_faults 1))).trans ?_
      rw [show stepE (run (m + 58)) lfC [(Str.ofString "shelf", .t sh), (Str.ofString "known", .t (intsT L))] [] (exOf (st .layer_faults 1)) = calE (run (m + 58)) lfC [(Str.ofString "shelf", .t sh), (Str.ofString "known", .t (intsT L))] [] (Str.ofString "configuration") (argsOf (exOf (st .layer_faults 1))) from by kernel_rfl]
      exact cal_pure (f := .configuration) (as := [.t sh]) (by kernel_rfl) (by kernel_rfl) (by kernel_rfl) rfl (conf_ok (m + 14) hF h1 h2 h3 hR.ws w4)
    refine x_next (Γ₁ := lfG sh L C) (σ₁ := [.list []]) (by kernel_rfl) ?_
    refine x_next (lf_words m hR hF h1 h2 h3 h4 [] rfl) ?_
    refine x_next (lf_crowd m hR hF h1 h2 h3 h4 W3 (by omega)) ?_
    refine x_next ho ?_
    exact x_ret (s_ret (e := exOf (st .layer_faults 6)) (by kernel_rfl) (by kernel_rfl))
  · show some (T.list _) = _
    unfold LF strsT
    simp only [List.map_append]
    rfl
end
end Mine
end
section
set_option maxRecDepth 100000
set_option autoImplicit false
namespace Mine
open PySem

/-! the fields -/
noncomputable def tOf : Nat → List UInt8
  | 0 => [97]
  | 1 => [98, 46, 99]
  | _ => [100]
/-- what a field holds -/
inductive Vv where
  | no | abc | abcd | seven
  deriving DecidableEq
noncomputable def headT (i : Nat) : Vv → T
  | .no => .dict [.s (Str.ofString "T"), .s (Str.ofString "FT"), .s (Str.ofString "MaxLen")] [strT (tOf i), nameT (Str.ofString "Tx"), .int 3]
  | .abc => .dict [.s (Str.ofString "T"), .s (Str.ofString "FT"), .s (Str.ofString "MaxLen"), .s (Str.ofString "V")] [strT (tOf i), nameT (Str.ofString "Tx"), .int 3, strT [97, 98, 99]]
  | .abcd => .dict [.s (Str.ofString "T"), .s (Str.ofString "FT"), .s (Str.ofString "MaxLen"), .s (Str.ofString "V")] [strT (tOf i), nameT (Str.ofString "Tx"), .int 3, strT [97, 98, 99, 100]]
  | .seven => .dict [.s (Str.ofString "T"), .s (Str.ofString "FT"), .s (Str.ofString "MaxLen"), .s (Str.ofString "V")] [strT (tOf i), nameT (Str.ofString "Tx"), .int 3, .int 7]
noncomputable def entT (i : Nat) (v : Vv) : T := .tup [.int 0, headT i v]
noncomputable def entsT : Nat → List Vv → List T
  | _, [] => []
  | i, v :: r => entT i v :: entsT (i + 1) r
inductive Fv : List Vv → Prop
  | n0 : Fv []
  | n1 (a : Vv) : Fv [a]
  | n2 (a b : Vv) : Fv [a, b]
  | n3 (a b c : Vv) : Fv [a, b, c]
set_option tactic.hygienic false in
theorem Fv.few {vs : List Vv} (h : Fv vs) : Few (entsT 0 vs) := by cases h <;> constructor
/-- a field's flaws -/
noncomputable def flawT (i : Nat) (v : Vv) : List T :=
  (if Nat.beq i 1 then [.tup [.int (20 + i), .str (Str.ofString "a dot in T")]] else []) ++ (if v = .abcd then [.tup [.int (20 + i), .str (Str.ofString "too long")]] else [])
noncomputable def flawsT : Nat → List Vv → List T
  | _, [] => []
  | i, v :: r => flawT i v ++ flawsT (i + 1) r
end Mine
end
section
set_option maxRecDepth 100000
set_option autoImplicit false
namespace Mine
open PySem

/-! told: what it says of a tree is plain data -/
/-- data that equals itself, n deep -/
noncomputable def plain : Nat → T → Bool
  | _, .none | _, .bool _ | _, .int _ | _, .str _ | _, .bytes _ => true
  | n + 1, .tup ts => ts.all (plain n)
  | n + 1, .list ts => ts.all (plain n)
  | _, _ => false
theorem eqTs_self {f : T → T → Bool} : ∀ (ts : List T), (∀ t ∈ ts, f t t = true) → eqTs f ts ts = true
  | [], _ => rfl
  | t :: r, h => by
    show (f t t && eqTs f r r) = true
    rw [h t (.head _), eqTs_self r fun x hx => h x (.tail _ hx)]; rfl
theorem plain_eq : ∀ (n : Nat) (t : T), plain n t = true → eqT n t t = true
  | n, .none, _ => by cases n <;> rfl
  | n, .bool b, _ => by cases n <;> exact beq_self_eq_true b
  | n, .int k, _ => by cases n <;> exact decide_eq_true rfl
  | n, .str x, _ => by cases n <;> exact sEq_refl x
  | n, .bytes b, _ => by cases n <;> exact decide_eq_true rfl
  | n + 1, .tup ts, h => by
    show (true && eqTs (eqT n) ts ts) = true
    rw [Bool.true_and]
    exact eqTs_self ts fun t ht => plain_eq n t (List.all_eq_true.mp h t ht)
  | n + 1, .list ts, h => by
    show (true && eqTs (eqT n) ts ts) = true
    rw [Bool.true_and]
    exact eqTs_self ts fun t ht => plain_eq n t (List.all_eq_true.mp h t ht)
  | 0, .tup _, h => by cases h
  | 0, .list _, h => by cases h
  | n, .fn _, h => by cases n <;> cases h
  | n, .cls _, h => by cases n <;> cases h
  | n, .bi _, h => by cases n <;> cases h
  | n, .dict .., h => by cases n <;> cases h
  | n, .inst .., h => by cases n <;> cases h
theorem plain_up : ∀ (n : Nat) (t : T), plain n t = true → plain (n + 1) t = true
  | n, .none, _ | n, .bool _, _ | n, .int _, _ | n, .str _, _ | n, .bytes _, _ => rfl
  | n + 1, .tup ts, h => by
    show ts.all (plain (n + 1)) = true
    exact List.all_eq_true.mpr fun t ht => plain_up n t (List.all_eq_true.mp h t ht)
  | n + 1, .list ts, h => by
    show ts.all (plain (n + 1)) = true
    exact List.all_eq_true.mpr fun t ht => plain_up n t (List.all_eq_true.mp h t ht)
  | 0, .tup _, h => by cases h
  | 0, .list _, h => by cases h
  | n, .fn _, h => by cases n <;> cases h
  | n, .cls _, h => by cases n <;> cases h
  | n, .bi _, h => by cases n <;> cases h
  | n, .dict .., h => by cases n <;> cases h
  | n, .inst .., h => by cases n <;> cases h
set_option tactic.hygienic false in
theorem plain_le {n k : Nat} (h : n ≤ k) {t : T} (p : plain n t = true) : plain k t = true := by
  induction h with
  | refl => exact p
  | step _ ih => exact plain_up _ _ ih

/-- told answers, at any fuel from k on, with data d deep -/
noncomputable def Tld (k d : Nat) (t : T) : Prop := ∃ r, plain d r = true ∧ ∀ m, callT (run (m + k)) .told [t] = some r

set_option tactic.hygienic false in
theorem tld_refs {w : List Int} (h : w ∈ ws) : Tld 30 4 (refsT w) := by
  refine ⟨.tup (.str (Str.ofString "array") :: w.map fun n => .tup [.str (Str.ofString "ref"), .int n, .int 0]), ?_, fun m => ?_⟩
  · refine ws_ind (P := fun w => plain 4 (.tup (.str (Str.ofString "array") :: w.map fun n => .tup [.str (Str.ofString "ref"), .int n, .int 0])) = true) ?_ h
    refine ⟨?_, ?_, ?_, ?_, ?_, ?_, ?_, ?_, ?_, ?_, ?_, ?_, ?_, ?_, ?_, ?_⟩ <;> rfl
  · refine ws_ind (P := fun w => callT (run (m + 30)) .told [refsT w] = some (.tup (.str (Str.ofString "array") :: w.map fun n => .tup [.str (Str.ofString "ref"), .int n, .int 0]))) ?_ h
    refine ⟨?_, ?_, ?_, ?_, ?_, ?_, ?_, ?_, ?_, ?_, ?_, ?_, ?_, ?_, ?_, ?_⟩ <;> kernel_rfl
end Mine
end
section
set_option maxRecDepth 100000
set_option autoImplicit false
namespace Mine
open PySem

section
variable {R : Rec} {cx : Cx} {Γ Γ' Γ₁ : Ga} {σ σ₁ σ₂ σ₃ : Sg}
set_option tactic.hygienic false in
theorem sbs_dict {o i : Expr} {ks : List Key} {ts : List T} {kt t : T} {k : Key} (h0 : notSlice i = true) (h1 : R.e cx Γ σ o = some (.t (.dict ks ts), σ)) (h2 : R.e cx Γ σ i = some (.t kt, σ)) (hk : keyOf kt = some k) (h3 : lkD k ks ts = some (some t)) :
    sbsE R cx Γ σ o i = some (.t t, σ) := by
  have e : itemT (.dict ks ts) kt = some t := by
    have e : itemT (.dict ks ts) kt = (match keyOf kt with
      | some k => match lkD k ks ts with
        | some r => r
        | none => none
      | none => none) := rfl
    rw [e, hk]
    dsimp only
    rw [h3]
  simp only [sbsE, h0, h1, h2, look, e, Option.map_some]
set_option tactic.hygienic false in
theorem cmp_one {l c : Expr} {op : CmpOp} {a b : AV} {r : Bool} (hs : notSet c = true) (h1 : R.e cx Γ σ l = some (a, σ₁)) (h2 : R.e cx Γ σ₁ c = some (b, σ₂)) (h : cmpA op σ₂ a b = some r) : cmpB R cx Γ σ l [op] [c] = some (r, σ₂) := by
  have e : cmpB R cx Γ σ l [op] [c] = (match R.e cx Γ σ l with
    | some (a, σ) => match notSet c with
      | true => match R.e cx Γ σ c with
        | some (b, σ) => (cmpA op σ a b).map fun r => (r, σ)
        | none => none
      | false => none
    | none => none) := rfl
  rw [e, h1]
  dsimp only
  rw [hs, h2]
  dsimp only
  rw [h]; rfl
set_option tactic.hygienic false in
theorem isNot_ok {l n : Expr} {t : T} (hs : notSet n = true) (h1 : R.e cx Γ σ l = some (.t t, σ)) (h2 : R.e cx Γ σ n = some (.t .none, σ)) (hn : isNoneT t = false) (hb : isBiA (.t t) = false) : cmpB R cx Γ σ l [.IsNot] [n] = some (true, σ) := by
  have e : isNoneA (.t t) = false := by cases t <;> first | rfl | cases hn
  refine cmp_one hs h1 h2 ?_
  show (if isNoneA (.t .none) && !isBiA (.t t) then some !(isNoneA (.t t)) else none) = some true
  rw [hb, e]; rfl
set_option tactic.hygienic false in
theorem ands_one {e : Expr} (h : R.b cx Γ σ e = some (true, σ)) : andsB R cx Γ σ [e] = some (true, σ) := by
  simp only [andsB, h]
set_option tactic.hygienic false in
theorem tup_two {a b : Expr} {va vb : AV} {ta tb : T} (ha : notStar a = true) (hb : notStar b = true) (h1 : R.e cx Γ σ a = some (va, σ)) (h2 : R.e cx Γ σ b = some (vb, σ₁)) (f1 : frzs σ₁ [va, vb] = some ([ta, tb], σ₂)) : tupE R cx Γ σ [a, b] = some (.t (.tup [ta, tb]), σ₂) := by
  have e : evs R cx Γ σ [a, b] = some ([va, vb], σ₁) := by simp only [evs, ha, hb, h1, h2]
  simp only [tupE, evsT, e, f1]
  rfl
set_option tactic.hygienic false in
theorem bin_ok {l r : Expr} {op : Operator} {a b : AV} {x y t : T} (h1 : R.e cx Γ σ l = some (a, σ₁)) (h2 : R.e cx Γ σ₁ r = some (b, σ₂)) (hx : look σ₂ a = some x) (hy : look σ₂ b = some y) (h : binA op x y = some t) : binE R cx Γ σ l op r = some (.t t, σ₂) := by
  simp only [binE, h1, h2, hx, hy, h, Option.map_some]
end
noncomputable def binOf : Expr → Expr × Expr
  | .BinOp l _ r _ => (l, r)
  | _ => (noE, noE)
noncomputable def cmpOf : Expr → Expr × Expr
  | .Compare l _ [c] _ => (l, c)
  | _ => (noE, noE)
noncomputable def subOf : Expr → Expr × Expr
  | .Subscript o i _ => (o, i)
  | _ => (noE, noE)

/-- each key's value is told as data -/
noncomputable def Each (n : Nat) (ks : List Key) (ts : List T) : List Str → List T → Prop
  | [], [] => True
  | x :: xs, q :: qs => (∃ t, lkD (.s x) ks ts = some (some t) ∧ isNoneT t = false ∧ isBiA (.t t) = false ∧ callT (run (n + 10)) .told [t] = some q) ∧ Each n ks ts xs qs
  | _, _ => False
noncomputable def prs : List Str → List T → List T
  | x :: xs, q :: qs => .tup [.str x, q] :: prs xs qs
  | _, _ => []

noncomputable def tdE : Expr := exOf (nth (bodyOf (st .told 2)) 0)
noncomputable def tdL : Expr := arg (binOf tdE).2 0
noncomputable def tdG : Expr × Expr × List Expr × Scope := genOf tdL
noncomputable def tdI : Expr := (tdG.2.2.1[0]?).getD noE
noncomputable abbrev tdC : Cx := ⟨tdG.2.2.2.names⟩

theorem told_turns (n : Nat) (ks : List Key) (ts : List T) : ∀ (xs : List Str) (qs : List T) (_ : Each n ks ts xs qs) (Γ : Ga) (_ : Γ = [(Str.ofString "value", .t (.dict ks ts))] ∨ ∃ v, Γ = [(Str.ofString "value", .t (.dict ks ts)), (Str.ofString "key", v)]),
    compL (run (n + 12)) tdC tdG.1 (eltOf tdL) tdG.2.2.1 Γ [] (xs.map .str) = some (prs xs qs, [])
  | [], [], _, Γ, _ => rfl
  | x :: xs, [], h, _, _ => h.elim
  | [], q :: qs, h, _, _ => h.elim
  | x :: xs, q :: qs, xx, Γ, hΓ => by
    obtain ⟨⟨t, h1, h2, h3, h4⟩, h5⟩ := xx
    let Γ' : Ga := [(Str.ofString "value", .t (.dict ks ts)), (Str.ofString "key", .t (.str x))]
    have ih := told_turns n ks ts xs qs h5 Γ' (.inr ⟨_, rfl⟩)
    rw [List.map_cons]
    refine comp_cons (Γ' := Γ') (a := .t (.tup [.str x, q])) (σ₁ := []) (σ₂ := []) ?_ ?_ ?_ rfl ih
    · rcases hΓ with rfl | ⟨v, rfl⟩ <;> kernel_rfl
    · rw [show tdG.2.2.1 = [tdI] from by kernel_rfl]
      refine ands_one ?_
      refine (b_run (n + 11) tdC Γ' [] tdI).trans ?_
      rw [show stepB (run (n + 11)) tdC Γ' [] tdI = cmpB (run (n + 11)) tdC Γ' [] (cmpOf tdI).1 [.IsNot] [(cmpOf tdI).2] from by kernel_rfl]
      refine isNot_ok (t := t) (by kernel_rfl) ?_ (by kernel_rfl) h2 h3
      refine (e_run (n + 10) tdC Γ' [] (cmpOf tdI).1).trans ?_
      rw [show stepE (run (n + 10)) tdC Γ' [] (cmpOf tdI).1 = sbsE (run (n + 10)) tdC Γ' [] (subOf (cmpOf tdI).1).1 (subOf (cmpOf tdI).1).2 from by kernel_rfl]
      exact sbs_dict (kt := .str x) (by kernel_rfl) (by kernel_rfl) (by kernel_rfl) rfl h1
    · refine (e_run (n + 11) tdC Γ' [] (eltOf tdL)).trans ?_
      rw [show stepE (run (n + 11)) tdC Γ' [] (eltOf tdL) = tupE (run (n + 11)) tdC Γ' [] [arg (eltOf tdL) 0, arg (eltOf tdL) 1] from by kernel_rfl]
      refine tup_two (σ₁ := []) (va := .t (.str x)) (vb := .t q) (by kernel_rfl) (by kernel_rfl) (by kernel_rfl) ?_ rfl
      refine (e_run (n + 10) tdC Γ' [] (arg (eltOf tdL) 1)).trans ?_
      rw [show stepE (run (n + 10)) tdC Γ' [] (arg (eltOf tdL) 1) = calE (run (n + 10)) tdC Γ' [] (Str.ofString "told_objects") [arg (arg (eltOf tdL) 1) 0] from by kernel_rfl]
      refine cal_pure (f := .told) (as := [.t t]) (σ₁ := []) (by kernel_rfl) (by kernel_rfl) (evs_cons (by kernel_rfl) ?_ rfl) rfl h4
      refine (e_run (n + 9) tdC Γ' [] (arg (arg (eltOf tdL) 1) 0)).trans ?_
      rw [show stepE (run (n + 9)) tdC Γ' [] (arg (arg (eltOf tdL) 1) 0) = sbsE (run (n + 9)) tdC Γ' [] (subOf (arg (arg (eltOf tdL) 1) 0)).1 (subOf (arg (arg (eltOf tdL) 1) 0)).2 from by kernel_rfl]
      exact sbs_dict (kt := .str x) (by kernel_rfl) (by kernel_rfl) (by kernel_rfl) rfl h1

set_option tactic.hygienic false in
theorem told_dict (n : Nat) {ks : List Key} {ts : List T} {xs : List Str} {qs : List T} (hz : Nat.blt ks.length 64 = true) (hs : (sortK ks).map keyT = xs.map T.str) (hx : xs.length ≤ 900) (h : Each n ks ts xs qs) :
    callT (run (n + 17)) .told [.dict ks ts] = some (.tup (.str (Str.ofString "dict") :: prs xs qs)) := by
  let v : AV := .t (.dict ks ts)
  let Γ0 : Ga := [(Str.ofString "value", v)]
  let Γ : Ga := [(Str.ofString "value", v), (Str.ofString "kind", .t (.str (Str.ofString "dict")))]
  have hk : callT (run (n + 14)) .kind_of [.dict ks ts] = some (.str (Str.ofString "dict")) := by kernel_rfl
  have hp : (prs xs qs).length ≤ xs.length := by
    clear h hs hx hz
    induction xs generalizing qs with
    | nil => exact Nat.zero_le _
    | cons x xs ih => induction qs using List.casesOn with
      | nil => exact Nat.zero_le _
      | cons q qs => exact Nat.succ_le_succ ih
  refine callT_of (R := run (n + 16)) (b := [st .told 0, st .told 1, st .told 2, st .told 3, st .told 4]) (σ₁ := [.frz (.list (prs xs qs))]) (v := .t (.tup (.str (Str.ofString "dict") :: prs xs qs))) (Γ₁ := Γ) (by kernel_rfl) (by kernel_rfl) rfl ?_ rfl
  refine x_next (Γ₁ := Γ) (σ₁ := []) (by kernel_rfl) (x_next (Γ₁ := Γ) (σ₁ := []) (by kernel_rfl) (x_ret (s_if (c := exOf (st .told 2)) (a := bodyOf (st .told 2)) (b := []) (k := true) (σ₁ := []) (by kernel_rfl) (by kernel_rfl) ?_)))
  refine (x_run (n + 15) ⟨FN.told.names⟩ Γ [] (bodyOf (st .told 2))).trans ?_
  rw [show bodyOf (st .told 2) = [nth (bodyOf (st .told 2)) 0] from by kernel_rfl]
  refine x_ret (s_ret (e := tdE) (by kernel_rfl) ?_)
  refine (e_run (n + 14) ⟨FN.told.names⟩ Γ [] tdE).trans ?_
  rw [show stepE (run (n + 14)) ⟨FN.told.names⟩ Γ [] tdE = binE (run (n + 14)) ⟨FN.told.names⟩ Γ [] (binOf tdE).1 .Add (binOf tdE).2 from by kernel_rfl]
  refine bin_ok (σ₁ := []) (a := .t (.tup [.str (Str.ofString "dict")])) (b := .t (.tup (prs xs qs))) (by kernel_rfl) ?_ rfl rfl ?_
  · refine (e_run (n + 13) ⟨FN.told.names⟩ Γ [] (binOf tdE).2).trans ?_
    rw [show stepE (run (n + 13)) ⟨FN.told.names⟩ Γ [] (binOf tdE).2 = calE (run (n + 13)) ⟨FN.told.names⟩ Γ [] (Str.ofString "tuple") [tdL] from by kernel_rfl]
    refine cal_any (f := .bi .tuple) (as := [.own 0]) (σ₁ := [.list (prs xs qs)]) (by kernel_rfl) (evs_cons (by kernel_rfl) ?_ rfl) ?_
    · refine (e_run (n + 12) ⟨FN.told.names⟩ Γ [] tdL).trans ?_
      rw [show stepE (run (n + 12)) ⟨FN.told.names⟩ Γ [] tdL = lcE (run (n + 12)) ⟨FN.told.names⟩ Γ [] (eltOf tdL) tdG.1 tdG.2.1 tdG.2.2.1 tdG.2.2.2 from by kernel_rfl]
      refine lc_e (σ₁ := []) (comp_e (vs := xs.map T.str) (σ₁ := []) (by kernel_rfl) ?_ ?_ ?_)
      · refine src_call (v := .t (.list (xs.map T.str))) (t := .list (xs.map T.str)) (by kernel_rfl) ?_ rfl rfl
        refine (e_run (n + 11) ⟨FN.told.names⟩ Γ [] tdG.2.1).trans ?_
        rw [show stepE (run (n + 11)) ⟨FN.told.names⟩ Γ [] tdG.2.1 = calE (run (n + 11)) ⟨FN.told.names⟩ Γ [] (Str.ofString "sorted") (argsOf tdG.2.1) from by kernel_rfl]
        refine cal_any (f := .bi .sorted) (as := [v]) (σ₁ := []) (by kernel_rfl) (by kernel_rfl) ?_
        rw [← hs]
        exact bis_t rfl rfl (sorted_bi hz)
      · rw [List.length_map]; exact Nat.ble_eq_true_of_le (by omega)
      · exact told_turns n ks ts xs qs h Γ0 (.inl rfl)
    · exact bis_t (ts := [.list (prs xs qs)]) rfl rfl (tuple_bi (Nat.le_trans hp (Nat.le_trans hx (by decide))))
  · exact if_pos (sizeOk_of (by simp only [List.length_cons, List.length_nil]; omega))
end Mine
end
section
set_option maxRecDepth 100000
set_option autoImplicit false
namespace Mine
open PySem
/-! the fields' flaws: the form walked whatever the values are; the loop over the leaves turn by turn -/
noncomputable def headG (i : Nat) : Option T → T
  | none => .dict [.s (Str.ofString "T"), .s (Str.ofString "FT"), .s (Str.ofString "MaxLen")] [strT (tOf i), nameT (Str.ofString "Tx"), .int 3]
  | some t => .dict [.s (Str.ofString "T"), .s (Str.ofString "FT"), .s (Str.ofString "MaxLen"), .s (Str.ofString "V")] [strT (tOf i), nameT (Str.ofString "Tx"), .int 3, t]
noncomputable def ov : Vv → Option T
  | .no => none
  | .abc => some (strT [97, 98, 99])
  | .abcd => some (strT [97, 98, 99, 100])
  | .seven => some (.int 7)
noncomputable def entG (i : Nat) (o : Option T) : T := .tup [.int 0, headG i o]
set_option tactic.hygienic false in
theorem entT_G (i : Nat) (v : Vv) : entT i v = entG i (ov v) := by cases v <;> rfl
noncomputable def tS : Nat → Str
  | 0 => Str.ofString "a"
  | 1 => Str.ofString "b.c"
  | _ => Str.ofString "d"
noncomputable def leafG (i : Nat) (o : Option T) : T := .inst .Field [Str.ofString "name", Str.ofString "reference", Str.ofString "above", Str.ofString "widgets", Str.ofString "head", Str.ofString "kind"]
  [.str (tS i), refT (20 + i), .none, .list [], headG i o, .str (Str.ofString "text")]
noncomputable def tourG (l : List T) (ks : List Key) (ts : List T) : T := .inst .FormWalk [Str.ofString "fields", Str.ofString "nodes", Str.ofString "seen"] [.list l, .list [], .dict ks ts]
section
variable (m : Nat) (L D x y z : T) (a b c : Option T)
set_option tactic.hygienic false in
theorem wlk0 : callT (run (m + 39)) .walked_form [shT L D []] = some (tourG [] [] []) := by kernel_rfl
set_option tactic.hygienic false in
theorem wlk1 : callT (run (m + 39)) .walked_form [shT L D [entG 0 a]] = some (tourG [leafG 0 a] [.i 20] [.bool true]) := by cases a <;> kernel_rfl
set_option tactic.hygienic false in
theorem wlk2 : callT (run (m + 39)) .walked_form [shT L D [entG 0 a, entG 1 b]] = some (tourG [leafG 0 a, leafG 1 b] [.i 20, .i 21] [.bool true, .bool true]) := by cases a <;> cases b <;> kernel_rfl
set_option tactic.hygienic false in
theorem wlk3 : callT (run (m + 39)) .walked_form [shT L D [entG 0 a, entG 1 b, entG 2 c]] = some (tourG [leafG 0 a, leafG 1 b, leafG 2 c] [.i 20, .i 21, .i 22] [.bool true, .bool true, .bool true]) := by cases a <;> cases b <;> cases c <;> kernel_rfl
/-- a node's flaws -/
noncomputable def dotG (i : Nat) : List T := if Nat.beq i 1 then [.str (Str.ofString "a dot in T")] else []
noncomputable def ndF (m : Nat) (S : T) (i : Nat) : Option T := callT (run (m + 36)) .node_faults [S, refT (20 + i), .none]
set_option tactic.hygienic false in
theorem nd1 : ndF m (shT L D [entG 0 a]) 0 = some (.list (dotG 0)) := by cases a <;> kernel_rfl
set_option tactic.hygienic false in
theorem nd2 : ndF m (shT L D [entG 0 a, y]) 0 = some (.list (dotG 0)) := by cases a <;> kernel_rfl
set_option tactic.hygienic false in
theorem nd3 : ndF m (shT L D [entG 0 a, y, z]) 0 = some (.list (dotG 0)) := by cases a <;> kernel_rfl
set_option tactic.hygienic false in
theorem nd4 : ndF m (shT L D [x, entG 1 a]) 1 = some (.list (dotG 1)) := by cases a <;> kernel_rfl
set_option tactic.hygienic false in
theorem nd5 : ndF m (shT L D [x, entG 1 a, z]) 1 = some (.list (dotG 1)) := by cases a <;> kernel_rfl
set_option tactic.hygienic false in
theorem nd6 : ndF m (shT L D [x, y, entG 2 a]) 2 = some (.list (dotG 2)) := by cases a <;> kernel_rfl
end
/-- a value's flaws -/
noncomputable def longG (k : Bool) : List T := if k then [.str (Str.ofString "too long")] else []
noncomputable def isL : Vv → Bool
  | .abcd => true
  | _ => false
set_option tactic.hygienic false in
theorem val_ok (m : Nat) (L D : T) (F : List T) (i : Nat) (v : Vv) : callT (run (m + 36)) .value_faults [shT L D F, leafG i (ov v)] = some (.list (longG (isL v))) := by cases v <;> kernel_rfl

noncomputable def ffS : Stmt := st .field_faults 4
noncomputable abbrev ffC : Cx := ⟨FN.field_faults.names⟩
/-- the frame in the loop -/
noncomputable def GF (S tr : T) (r : Ga) : Ga := [(Str.ofString "shelf", .t S), (Str.ofString "tour", .t tr), (Str.ofString "found", .own 0), (Str.ofString "kinds", .own 1)] ++ r
noncomputable def GL2 (i : Nat) (o : Option T) (k : Bool) : Ga := [(Str.ofString "leaf", .t (leafG i o)), (Str.ofString "faults", .t (.list (dotG i ++ longG k)))]
noncomputable def ffE : Expr := exOf (nth (bodyOf ffS) 0)
noncomputable def Addd (i : Nat) (k : Bool) : Prop := binA .Add (.list (dotG i)) (.list (longG k)) = some (.list (dotG i ++ longG k))
set_option tactic.hygienic false in
theorem add0 (k : Bool) : Addd 0 k := by cases k <;> rfl
set_option tactic.hygienic false in
theorem add1 (k : Bool) : Addd 1 k := by cases k <;> rfl
set_option tactic.hygienic false in
theorem add2 (k : Bool) : Addd 2 k := by cases k <;> rfl
/-  one turn: the flaws by the two calls, the rest by h -/
set_option tactic.hygienic false in
theorem ff_turn0 (m : Nat) {S tr : T} {i : Nat} {o : Option T} {k : Bool} {r : Ga} {σ : Sg} {y : Option (Fl × Ga × Sg)} (hr : r = [] ∨ ∃ w, r = [(Str.ofString "faults", w)])
    (hN : ndF m S i = some (.list (dotG i))) (hV : callT (run (m + 36)) .value_faults [S, leafG i o] = some (.list (longG k))) (hB : Addd i k)
    (h : stepX (run (m + 38)) ffC (GF S tr (GL2 i o k)) σ (bodyOf ffS).tail = y) : stepX (run (m + 38)) ffC (GF S tr ((Str.ofString "leaf", .t (leafG i o)) :: r)) σ (bodyOf ffS) = y := by
  generalize hΓ : GF S tr ((Str.ofString "leaf", .t (leafG i o)) :: r) = Γ
  refine Eq.trans (b := stepX (run (m + 38)) ffC Γ σ (nth (bodyOf ffS) 0 :: (bodyOf ffS).tail)) (by kernel_rfl) (x_next (Γ₁ := GF S tr (GL2 i o k)) (σ₁ := σ) (s_asg (x := Str.ofString "faults") (e := ffE) (v := .t (.list (dotG i ++ longG k))) (by kernel_rfl) (by kernel_rfl) ?_ (by subst hΓ; rcases hr with rfl | ⟨w', rfl⟩ <;> kernel_rfl)) h)
  refine (e_run (m + 37) ffC Γ σ ffE).trans (Eq.trans (b := binE (run (m + 37)) ffC Γ σ (binOf ffE).1 .Add (binOf ffE).2) (by kernel_rfl) (bin_ok (a := .t (.list (dotG i))) (b := .t (.list (longG k))) (σ₁ := σ) ?_ ?_ rfl rfl hB))
  · refine (e_run (m + 36) ffC Γ σ (binOf ffE).1).trans (Eq.trans (b := calE (run (m + 36)) ffC Γ σ (Str.ofString "node_faults") (argsOf (binOf ffE).1)) (by kernel_rfl) ?_)
    exact cal_pure (f := .node_faults) (as := [.t S, .t (refT (20 + i)), .t .none]) (σ₁ := σ) (by kernel_rfl) rfl (by subst hΓ; rcases hr with rfl | ⟨w', rfl⟩ <;> kernel_rfl) rfl hN
  · refine (e_run (m + 36) ffC Γ σ (binOf ffE).2).trans (Eq.trans (b := calE (run (m + 36)) ffC Γ σ (Str.ofString "value_faults") (argsOf (binOf ffE).2)) (by kernel_rfl) ?_)
    exact cal_pure (f := .value_faults) (as := [.t S, .t (leafG i o)]) (σ₁ := σ) (by kernel_rfl) rfl (by subst hΓ; rcases hr with rfl | ⟨w', rfl⟩ <;> kernel_rfl) rfl hV
set_option tactic.hygienic false in
theorem ff_turn (m : Nat) {S tr : T} {i : Nat} {o : Option T} {k : Bool} {r : Ga} {σ σ' : Sg} {y : Option (Fl × Ga × Sg)} {l : List T} (hr : r = [] ∨ ∃ w w', r = [(Str.ofString "leaf", w), (Str.ofString "faults", w')])
    (hN : ndF m S i = some (.list (dotG i))) (hV : callT (run (m + 36)) .value_faults [S, leafG i o] = some (.list (longG k))) (hB : Addd i k)
    (h : stepX (run (m + 38)) ffC (GF S tr (GL2 i o k)) σ (bodyOf ffS).tail = some (.next, GF S tr (GL2 i o k), σ'))
    (hl : forL (run (m + 39)) ffC (tgOf ffS) (bodyOf ffS) (GF S tr (GL2 i o k)) σ' l = y) : forL (run (m + 39)) ffC (tgOf ffS) (bodyOf ffS) (GF S tr r) σ (leafG i o :: l) = y := by
  rcases hr with rfl | ⟨w, w', rfl⟩
  · exact for_cons (by kernel_rfl) (ff_turn0 m (.inl rfl) hN hV hB h) hl
  · exact for_cons (by kernel_rfl) (ff_turn0 m (.inr ⟨w', rfl⟩) hN hV hB h) hl

noncomputable def fpG (i : Nat) (k : Bool) : List T := (dotG i ++ longG k).map fun t => .tup [.int (20 + i), t]
noncomputable def txG : T := .str (Str.ofString "text")
section
variable (m : Nat) (S tr : T) (o : Option T) (k k' k'' : Bool)
noncomputable abbrev rest (m : Nat) (S tr : T) (i : Nat) (o : Option T) (k : Bool) (σ : Sg) : Option (Fl × Ga × Sg) := stepX (run (m + 38)) ffC (GF S tr (GL2 i o k)) σ (bodyOf ffS).tail
set_option tactic.hygienic false in
theorem rst0 : rest m S tr 0 o k [.list [], .dict [] []] = some (.next, GF S tr (GL2 0 o k), [.list (fpG 0 k), .dict [.s (tS 0)] [txG], .frz (.list (fpG 0 k))]) := by cases k <;> kernel_rfl
set_option tactic.hygienic false in
theorem rst1 : rest m S tr 1 o k' [.list (fpG 0 k), .dict [.s (tS 0)] [txG], .frz (.list (fpG 0 k))] = some (.next, GF S tr (GL2 1 o k'), [.list (fpG 0 k ++ fpG 1 k'), .dict [.s (tS 0), .s (tS 1)] [txG, txG], .frz (.list (fpG 0 k)), .frz (.list (fpG 1 k'))]) := by cases k <;> cases k' <;> kernel_rfl
set_option tactic.hygienic false in
theorem rst2 : rest m S tr 2 o k'' [.list (fpG 0 k ++ fpG 1 k'), .dict [.s (tS 0), .s (tS 1)] [txG, txG], .frz (.list (fpG 0 k)), .frz (.list (fpG 1 k'))] = some (.next, GF S tr (GL2 2 o k''), [.list (fpG 0 k ++ fpG 1 k' ++ fpG 2 k''), .dict [.s (tS 0), .s (tS 1), .s (tS 2)] [txG, txG, txG], .frz (.list (fpG 0 k)), .frz (.list (fpG 1 k')), .frz (.list (fpG 2 k''))]) := by cases k <;> cases k' <;> cases k'' <;> kernel_rfl
end
set_option tactic.hygienic false in
theorem fp0 (v : Vv) : fpG 0 (isL v) = flawT 0 v := by cases v <;> rfl
set_option tactic.hygienic false in
theorem fp1 (v : Vv) : fpG 1 (isL v) = flawT 1 v := by cases v <;> rfl
set_option tactic.hygienic false in
theorem fp2 (v : Vv) : fpG 2 (isL v) = flawT 2 v := by cases v <;> rfl
/-  the whole def, from its loop -/
set_option tactic.hygienic false in
theorem ff_of (m : Nat) {S : T} {ls : List T} {ks : List Key} {ts : List T} {r : Ga} {σ : Sg} {f : List T} (hw : callT (run (m + 39)) .walked_form [S] = some (tourG ls ks ts))
    (hl : forL (run (m + 40)) ffC (tgOf ffS) (bodyOf ffS) (GF S (tourG ls ks ts) []) [.list [], .dict [] []] ls = some (.next, GF S (tourG ls ks ts) r, .list f :: σ)) : callT (run (m + 41)) .field_faults [S] = some (.list f) := by
  let tr := tourG ls ks ts
  let Γ1 : Ga := [(Str.ofString "shelf", .t S), (Str.ofString "tour", .t tr)]
  let Γ2 : Ga := Γ1 ++ [(Str.ofString "found", .own 0)]
  refine callT_of (R := run (m + 40)) (b := [st .field_faults 0, st .field_faults 1, st .field_faults 2, st .field_faults 3, ffS, st .field_faults 5]) (σ₁ := .list f :: σ) (v := .own 0) (Γ₁ := GF S tr r) (by kernel_rfl) (by kernel_rfl) rfl ?_ rfl
  refine x_next (Γ₁ := Γ1) (σ₁ := []) (s_asg (x := Str.ofString "tour") (e := exOf (st .field_faults 0)) (v := .t tr) (by kernel_rfl) (by kernel_rfl) ?_ (by kernel_rfl)) ?_
  · refine (e_run (m + 39) ffC [(Str.ofString "shelf", .t S)] [] (exOf (st .field_faults 0))).trans ?_
    rw [show stepE (run (m + 39)) ffC [(Str.ofString "shelf", .t S)] [] (exOf (st .field_faults 0)) = calE (run (m + 39)) ffC [(Str.ofString "shelf", .t S)] [] (Str.ofString "walked_form") (argsOf (exOf (st .field_faults 0))) from by kernel_rfl]
    exact cal_pure (f := .walked_form) (as := [.t S]) (ts := [S]) (σ₁ := []) (by kernel_rfl) rfl (by kernel_rfl) rfl hw
  · refine x_next (Γ₁ := Γ2) (σ₁ := [.list []]) (by kernel_rfl) (x_next (Γ₁ := Γ2) (σ₁ := [.list []]) (by kernel_rfl) (x_next (Γ₁ := GF S tr []) (σ₁ := [.list [], .dict [] []]) (by kernel_rfl) (x_next (Γ₁ := GF S tr r) (σ₁ := .list f :: σ) ?_ (x_ret (s_ret (e := exOf (st .field_faults 5)) (by kernel_rfl) (by kernel_rfl))))))
    exact s_for (tg := tgOf ffS) (it := exOf ffS) (body := bodyOf ffS) (vs := ls) (σ₁ := [.list [], .dict [] []]) (by kernel_rfl) (by kernel_rfl) hl
/-- what stands of a turn when the loop is left -/
noncomputable abbrev flG (i : Nat) (v : Vv) : Ga := [(Str.ofString "faults", .t (.list (dotG i ++ longG (isL v))))]
set_option tactic.hygienic false in
theorem fields_ok (m : Nat) (L D : T) {vs : List Vv} (h : Fv vs) : callT (run (m + 41)) .field_faults [shT L D (entsT 0 vs)] = some (.list (flawsT 0 vs)) := by
  cases h with
  | n0 => exact ff_of m (r := []) (σ := [.dict [] []]) (wlk0 m L D) for_nil
  | n1 a =>
    show callT _ _ [shT L D [entT 0 a]] = some (.list (flawT 0 a ++ []))
    rw [List.append_nil, entT_G, ← fp0]
    exact ff_of m (r := flG 0 a) (σ := [.dict [.s (tS 0)] [txG], .frz (.list (fpG 0 (isL a)))]) (wlk1 m L D (ov a)) (ff_turn (m + 1) (.inl rfl) (nd1 (m + 1) L D (ov a)) (val_ok (m + 1) L D _ 0 a) (add0 _) (rst0 ..) (for_nil.trans (by kernel_rfl)))
  | n2 a b =>
    show callT _ _ [shT L D [entT 0 a, entT 1 b]] = some (.list (flawT 0 a ++ (flawT 1 b ++ [])))
    rw [List.append_nil, entT_G, entT_G, ← fp0, ← fp1]
    exact ff_of m (r := flG 1 b) (σ := [.dict [.s (tS 0), .s (tS 1)] [txG, txG], .frz (.list (fpG 0 (isL a))), .frz (.list (fpG 1 (isL b)))]) (wlk2 m L D (ov a) (ov b)) (ff_turn (m + 1) (.inl rfl) (nd2 (m + 1) L D _ (ov a)) (val_ok (m + 1) L D _ 0 a) (add0 _) (rst0 ..)
      (ff_turn (m + 1) (.inr ⟨_, _, rfl⟩) (nd4 (m + 1) L D _ (ov b)) (val_ok (m + 1) L D _ 1 b) (add1 _) (rst1 ..) (for_nil.trans (by kernel_rfl))))
  | n3 a b c =>
    show callT _ _ [shT L D [entT 0 a, entT 1 b, entT 2 c]] = some (.list (flawT 0 a ++ (flawT 1 b ++ (flawT 2 c ++ []))))
    rw [List.append_nil, ← List.append_assoc, entT_G, entT_G, entT_G, ← fp0, ← fp1, ← fp2]
    exact ff_of m (r := flG 2 c) (σ := [.dict [.s (tS 0), .s (tS 1), .s (tS 2)] [txG, txG, txG], .frz (.list (fpG 0 (isL a))), .frz (.list (fpG 1 (isL b))), .frz (.list (fpG 2 (isL c)))]) (wlk3 m L D (ov a) (ov b) (ov c)) (ff_turn (m + 1) (.inl rfl) (nd3 (m + 1) L D _ _ (ov a)) (val_ok (m + 1) L D _ 0 a) (add0 _) (rst0 ..)
      (ff_turn (m + 1) (.inr ⟨_, _, rfl⟩) (nd5 (m + 1) L D _ _ (ov b)) (val_ok (m + 1) L D _ 1 b) (add1 _) (rst1 ..) (ff_turn (m + 1) (.inr ⟨_, _, rfl⟩) (nd6 (m + 1) L D _ _ (ov c)) (val_ok (m + 1) L D _ 2 c) (add2 _) (rst2 ..) (for_nil.trans (by kernel_rfl)))))
end Mine
end
section
set_option maxRecDepth 100000
set_option autoImplicit false
namespace Mine
open PySem

section
variable {R : Rec} {cx : Cx} {Γ Γ' Γ₁ : Ga} {σ σ₁ σ₂ σ₃ : Sg}
set_option tactic.hygienic false in
theorem sbs_any {o i : Expr} {x k t : T} (h0 : notSlice i = true) (h1 : R.e cx Γ σ o = some (.t x, σ)) (h2 : R.e cx Γ σ i = some (.t k, σ)) (h3 : itemT x k = some t) : sbsE R cx Γ σ o i = some (.t t, σ) := by
  simp only [sbsE, h0, h1, h2, look, h3, Option.map_some]
set_option tactic.hygienic false in
theorem tup_of {es : List Expr} {vs : List AV} {ts : List T} (h1 : evs R cx Γ σ es = some (vs, σ₁)) (h2 : frzs σ₁ vs = some (ts, σ₂)) (hz : sizeOk ts.length = true) : tupE R cx Γ σ es = some (.t (.tup ts), σ₂) := by
  simp only [tupE, evsT, h1, h2, hz, if_true]
set_option tactic.hygienic false in
theorem mth_def {o : Expr} {n : Str} {ap p : Pos} {args : List Expr} {c : CN} {f : FN} {v : AV} {as : List AV} {ts : List T} {t : T} (h0 : (plainBase o && Nat.beq ap.endLine p.line && Nat.blt args.length 25) = true)
    (h1 : R.e cx Γ σ o = some (v, σ₁)) (hc : clsOf σ₁ v = some c) (hm : meth c n = some f) (hf : noFld n σ₁ v = true) (h2 : evs R cx Γ σ₁ args = some (as, σ₂)) (hp : isPure f = true) (h3 : frzs σ₂ (v :: as) = some (ts, σ₃)) (h4 : callT R f ts = some t) :
    mthE R cx Γ σ o n ap args p = some (.t t, σ₃) := by
  simp only [mthE, h0, h1, hc, hm, hf, h2, callV, fnV, hp, h3, h4]
end

theorem plain_tup {n : Nat} {ts : List T} (h : ∀ t ∈ ts, plain n t = true) : plain (n + 1) (.tup ts) = true := List.all_eq_true.mpr h
set_option tactic.hygienic false in
theorem plain_str (n : Nat) (x : Str) : plain n (.str x) = true := by cases n <;> rfl
theorem prs_plain {d : Nat} : ∀ (xs : List Str) (qs : List T) (_ : ∀ q ∈ qs, plain d q = true), ∀ p ∈ prs xs qs, plain (d + 1) p = true
  | [], _, _, p, hp => by cases hp
  | _ :: _, [], _, p, hp => by cases hp
  | x :: xs, q :: qs, h, p, hp => by
    rcases List.mem_cons.mp hp with rfl | hp
    · refine plain_tup fun t ht => ?_
      rcases List.mem_cons.mp ht with rfl | ht
      · exact plain_str _ _
      · rcases List.mem_cons.mp ht with rfl | ht
        · exact h _ (.head _)
        · cases ht
    · exact prs_plain xs qs (fun q hq => h q (.tail _ hq)) p hp

set_option tactic.hygienic false in
theorem tld_dict {k d : Nat} {ks : List Key} {ts : List T} {xs : List Str} (hz : Nat.blt ks.length 64 = true) (hs : (sortK ks).map keyT = xs.map T.str) (hx : xs.length ≤ 900)
    (h : ∀ x ∈ xs, ∃ t, lkD (.s x) ks ts = some (some t) ∧ isNoneT t = false ∧ isBiA (.t t) = false ∧ Tld (k + 10) d t) : Tld (k + 17) (d + 2) (.dict ks ts) := by
  have : ∃ qs : List T, (∀ q ∈ qs, plain d q = true) ∧ ∀ m, Each (m + k) ks ts xs qs := by
    clear hs hx
    induction xs with
    | nil => exact ⟨[], (fun q hq => by cases hq), fun m => trivial⟩
    | cons x xs ih =>
      obtain ⟨qs, h1, h2⟩ := ih fun y hy => h y (.tail _ hy)
      obtain ⟨t, a, b, c, r, e, f⟩ := h x (.head _)
      refine ⟨r :: qs, fun q hq => ?_, fun m => ⟨⟨t, a, b, c, f m⟩, h2 m⟩⟩
      cases hq with
      | head => exact e
      | tail _ hq => exact h1 q hq
  obtain ⟨qs, h1, h2⟩ := this
  refine ⟨_, ?_, fun m => told_dict (m + k) hz hs hx (h2 m)⟩
  refine plain_tup fun t ht => ?_
  cases ht with
  | head => rfl
  | tail _ ht => exact prs_plain xs qs h1 t ht
set_option tactic.hygienic false in
theorem tld_up {k k' d d' : Nat} {t : T} (h : Tld k d t) (a : k ≤ k') (b : d ≤ d') : Tld k' d' t := by
  obtain ⟨r, p, q⟩ := h
  refine ⟨r, plain_le b p, fun m => ?_⟩
  have e : m + k' = (m + (k' - k)) + k := by omega
  rw [e]; exact q _

set_option tactic.hygienic false in
theorem tld_row {w : List Int} (h : w ∈ ws) : Tld 40 5 (.list [refsT w]) := by
  refine ⟨.tup [.str (Str.ofString "array"), .tup (.str (Str.ofString "array") :: w.map fun n => .tup [.str (Str.ofString "ref"), .int n, .int 0])], ?_, fun m => ?_⟩
  · refine ws_ind (P := fun w => plain 5 (.tup [.str (Str.ofString "array"), .tup (.str (Str.ofString "array") :: w.map fun n => .tup [.str (Str.ofString "ref"), .int n, .int 0])]) = true) ?_ h
    refine ⟨?_, ?_, ?_, ?_, ?_, ?_, ?_, ?_, ?_, ?_, ?_, ?_, ?_, ?_, ?_, ?_⟩ <;> rfl
  · refine ws_ind (P := fun w => callT (run (m + 40)) .told [.list [refsT w]] = some (.tup [.str (Str.ofString "array"), .tup (.str (Str.ofString "array") :: w.map fun n => .tup [.str (Str.ofString "ref"), .int n, .int 0])])) ?_ h
    refine ⟨?_, ?_, ?_, ?_, ?_, ?_, ?_, ?_, ?_, ?_, ?_, ?_, ?_, ?_, ?_, ?_⟩ <;> kernel_rfl

set_option tactic.hygienic false in
theorem lst_ws {L : List Int} (h : Lst L) : L ∈ ws := by cases h <;> decide
set_option tactic.hygienic false in
theorem tld_first {w1 w2 w3 w4 row : List Int} (h1 : w1 ∈ ws) (h2 : w2 ∈ ws) (h3 : w3 ∈ ws) (h4 : w4 ∈ ws) (hr : row ∈ ws) : Tld 47 7 (fstT row w1 w2 w3 w4) := by
  refine tld_dict (k := 30) (d := 5) (xs := [Str.ofString "Locked", Str.ofString "OFF", Str.ofString "ON", Str.ofString "Order", Str.ofString "RBGroups"]) (by kernel_rfl) (by kernel_rfl) (by decide) ?_
  intro x hx
  simp only [List.mem_cons, List.not_mem_nil, or_false] at hx
  rcases hx with rfl | rfl | rfl | rfl | rfl
  · exact ⟨refsT w3, by kernel_rfl, rfl, rfl, tld_up (tld_refs h3) (by decide) (by decide)⟩
  · exact ⟨refsT w2, by kernel_rfl, rfl, rfl, tld_up (tld_refs h2) (by decide) (by decide)⟩
  · exact ⟨refsT w1, by kernel_rfl, rfl, rfl, tld_up (tld_refs h1) (by decide) (by decide)⟩
  · exact ⟨refsT w4, by kernel_rfl, rfl, rfl, tld_up (tld_refs h4) (by decide) (by decide)⟩
  · exact ⟨_, by kernel_rfl, rfl, rfl, tld_row hr⟩
set_option tactic.hygienic false in
theorem tld_props {L : List Int} {D : T} (hL : Lst L) (hD : Tld 47 7 D) (h1 : isNoneT D = false) (h2 : isBiA (.t D) = false) : Tld 54 9 (.dict [.s (Str.ofString "OCGs"), .s (Str.ofString "D")] [refsT L, D]) := by
  refine tld_dict (k := 37) (d := 7) (xs := [Str.ofString "D", Str.ofString "OCGs"]) (by kernel_rfl) (by kernel_rfl) (by decide) ?_
  intro x hx
  simp only [List.mem_cons, List.not_mem_nil, or_false] at hx
  rcases hx with rfl | rfl
  · exact ⟨D, by kernel_rfl, h1, h2, hD⟩
  · exact ⟨refsT L, by kernel_rfl, rfl, rfl, tld_up (tld_refs (lst_ws hL)) (by decide) (by decide)⟩
theorem tld_name : Tld 30 4 (nameT (Str.ofString "Catalog")) := ⟨.tup [.str (Str.ofString "name"), .str (Str.ofString "Catalog")], rfl, fun m => by kernel_rfl⟩
set_option tactic.hygienic false in
theorem tld_form {n : Nat} (h : n ≤ 3) : Tld 44 8 (.dict [.s (Str.ofString "Fields")] [refsT (fldNums n)]) := by
  have : ∃ r, plain 8 r = true ∧ ∀ m, callT (run (m + 44)) .told [.dict [.s (Str.ofString "Fields")] [refsT (fldNums n)]] = some r := by
    refine ⟨.tup [.str (Str.ofString "dict"), .tup [.str (Str.ofString "Fields"), .tup (.str (Str.ofString "array") :: (fldNums n).map fun n => .tup [.str (Str.ofString "ref"), .int n, .int 0])]], ?_, fun m => ?_⟩
    · rcases n with _ | _ | _ | _ | n <;> first | rfl | omega
    · rcases n with _ | _ | _ | _ | n <;> first | kernel_rfl | omega
  exact this
set_option tactic.hygienic false in
theorem tld_root {L : List Int} {D : T} {n : Nat} (h : n ≤ 3) (hL : Lst L) (hD : Tld 47 7 D) (h1 : isNoneT D = false) (h2 : isBiA (.t D) = false) : Tld 61 11 (rootT (refsT L) D n) := by
  refine tld_dict (k := 44) (d := 9) (xs := [Str.ofString "AcroForm", Str.ofString "OCProperties", Str.ofString "Type"]) (by kernel_rfl) (by kernel_rfl) (by decide) ?_
  intro x hx
  simp only [List.mem_cons, List.not_mem_nil, or_false] at hx
  rcases hx with rfl | rfl | rfl
  · exact ⟨_, by kernel_rfl, rfl, rfl, tld_up (tld_form h) (by decide) (by decide)⟩
  · exact ⟨_, by kernel_rfl, rfl, rfl, tld_props hL hD h1 h2⟩
  · exact ⟨_, by kernel_rfl, rfl, rfl, tld_up tld_name (by decide) (by decide)⟩
noncomputable def ocgD : T := .dict [.s (Str.ofString "Type"), .s (Str.ofString "Name")] [nameT (Str.ofString "OCG"), strT [120]]
theorem tld_ocg : Tld 44 8 ocgD := ⟨.tup [.str (Str.ofString "dict"), .tup [.str (Str.ofString "Name"), .tup [.str (Str.ofString "string"), .bytes [120]]], .tup [.str (Str.ofString "Type"), .tup [.str (Str.ofString "name"), .str (Str.ofString "OCG")]]], rfl, fun m => by kernel_rfl⟩
theorem tld_trail : Tld 44 8 trailT := ⟨.tup [.str (Str.ofString "dict"), .tup [.str (Str.ofString "Root"), .tup [.str (Str.ofString "ref"), .int 1, .int 0]]], rfl, fun m => by kernel_rfl⟩
/-- V, told -/
noncomputable def Vv.told : Vv → List T
  | .no => []
  | .abc => [.tup [.str (Str.ofString "V"), .tup [.str (Str.ofString "string"), .bytes [97, 98, 99]]]]
  | .abcd => [.tup [.str (Str.ofString "V"), .tup [.str (Str.ofString "string"), .bytes [97, 98, 99, 100]]]]
  | .seven => [.tup [.str (Str.ofString "V"), .tup [.str (Str.ofString "int"), .int 7]]]
set_option tactic.hygienic false in
theorem tld_head {i : Nat} (h : i ≤ 2) (v : Vv) : Tld 44 8 (headT i v) := by
  refine ⟨.tup ([.str (Str.ofString "dict"), .tup [.str (Str.ofString "FT"), .tup [.str (Str.ofString "name"), .str (Str.ofString "Tx")]], .tup [.str (Str.ofString "MaxLen"), .tup [.str (Str.ofString "int"), .int 3]], .tup [.str (Str.ofString "T"), .tup [.str (Str.ofString "string"), .bytes (tOf i)]]] ++ v.told), ?_, fun m => ?_⟩
  · rcases i with _ | _ | _ | i <;> first | omega | (cases v <;> rfl)
  · rcases i with _ | _ | _ | i <;> first | omega | (cases v <;> kernel_rfl)
end Mine
end
section
set_option maxRecDepth 100000
set_option autoImplicit false
namespace Mine
open PySem

/-! the shelf, told -/
noncomputable def EachN (n : Nat) (ks : List Key) (ts : List T) : List Int → List T → Prop
  | [], [] => True
  | x :: xs, q :: qs => (∃ t, lkD (.i x) ks ts = some (some (.tup [.int 0, t])) ∧ callT (run (n + 10)) .told [t] = some q) ∧ EachN n ks ts xs qs
  | _, _ => False
noncomputable def rws : List Int → List T → List T
  | x :: xs, q :: qs => .tup [.int x, .int 0, q] :: rws xs qs
  | _, _ => []
noncomputable def stL : Expr := arg (exOf (st .shelfTold 0)) 0
noncomputable def shG : Expr × Expr × List Expr × Scope := genOf stL
noncomputable abbrev stC : Cx := ⟨shG.2.2.2.names⟩
noncomputable def shS (ks : List Key) (ts : List T) (tr : T) : T := .inst .Shelf [Str.ofString "table", Str.ofString "trailer"] [.dict ks ts, tr]

theorem rows_turns (n : Nat) (ks : List Key) (ts : List T) (tr : T) : ∀ (xs : List Int) (qs : List T) (_ : EachN n ks ts xs qs) (Γ : Ga) (_ : Γ = [(Str.ofString "self", .t (shS ks ts tr))] ∨ ∃ v, Γ = [(Str.ofString "self", .t (shS ks ts tr)), (Str.ofString "number", v)]),
    compL (run (n + 12)) stC shG.1 (eltOf stL) shG.2.2.1 Γ [] (xs.map .int) = some (rws xs qs, [])
  | [], [], _, Γ, _ => rfl
  | x :: xs, [], h, _, _ => h.elim
  | [], q :: qs, h, _, _ => h.elim
  | x :: xs, q :: qs, xx, Γ, hΓ => by
    obtain ⟨⟨t, h1, h4⟩, h5⟩ := xx
    let Γ' : Ga := [(Str.ofString "self", .t (shS ks ts tr)), (Str.ofString "number", .t (.int x))]
    let E := eltOf stL
    let a1 := subOf (arg E 1)
    let a2 := subOf (arg (arg E 2) 0)
    have ih := rows_turns n ks ts tr xs qs h5 Γ' (.inr ⟨_, rfl⟩)
    rw [List.map_cons]
    refine comp_cons (Γ' := Γ') (a := .t (.tup [.int x, .int 0, q])) (σ₁ := []) (σ₂ := []) ?_ (by kernel_rfl) ?_ rfl ih
    · rcases hΓ with rfl | ⟨v, rfl⟩ <;> kernel_rfl
    · refine (e_run (n + 11) stC Γ' [] E).trans ?_
      rw [show stepE (run (n + 11)) stC Γ' [] E = tupE (run (n + 11)) stC Γ' [] [arg E 0, arg E 1, arg E 2] from by kernel_rfl]
      refine tup_of (vs := [.t (.int x), .t (.int 0), .t q]) (σ₁ := []) ?_ rfl rfl
      refine evs_cons (σ₁ := []) (by kernel_rfl) (by kernel_rfl) (evs_cons (σ₁ := []) (by kernel_rfl) ?_ (evs_cons (σ₁ := []) (by kernel_rfl) ?_ rfl))
      · refine (e_run (n + 10) stC Γ' [] (arg E 1)).trans ?_
        rw [show stepE (run (n + 10)) stC Γ' [] (arg E 1) = sbsE (run (n + 10)) stC Γ' [] a1.1 a1.2 from by kernel_rfl]
        refine sbs_any (x := .tup [.int 0, t]) (k := .int 0) (by kernel_rfl) ?_ (by kernel_rfl) (by kernel_rfl)
        refine (e_run (n + 9) stC Γ' [] a1.1).trans ?_
        rw [show stepE (run (n + 9)) stC Γ' [] a1.1 = sbsE (run (n + 9)) stC Γ' [] (subOf a1.1).1 (subOf a1.1).2 from by kernel_rfl]
        exact sbs_dict (kt := .int x) (by kernel_rfl) (by kernel_rfl) (by kernel_rfl) rfl h1
      · refine (e_run (n + 10) stC Γ' [] (arg E 2)).trans ?_
        rw [show stepE (run (n + 10)) stC Γ' [] (arg E 2) = calE (run (n + 10)) stC Γ' [] (Str.ofString "told_objects") [arg (arg E 2) 0] from by kernel_rfl]
        refine cal_pure (f := .told) (as := [.t t]) (σ₁ := []) (by kernel_rfl) (by kernel_rfl) (evs_cons (by kernel_rfl) ?_ rfl) rfl h4
        refine (e_run (n + 9) stC Γ' [] (arg (arg E 2) 0)).trans ?_
        rw [show stepE (run (n + 9)) stC Γ' [] (arg (arg E 2) 0) = sbsE (run (n + 9)) stC Γ' [] a2.1 a2.2 from by kernel_rfl]
        refine sbs_any (x := .tup [.int 0, t]) (k := .int 1) (by kernel_rfl) ?_ (by kernel_rfl) (by kernel_rfl)
        refine (e_run (n + 8) stC Γ' [] a2.1).trans ?_
        rw [show stepE (run (n + 8)) stC Γ' [] a2.1 = sbsE (run (n + 8)) stC Γ' [] (subOf a2.1).1 (subOf a2.1).2 from by kernel_rfl]
        exact sbs_dict (kt := .int x) (by kernel_rfl) (by kernel_rfl) (by kernel_rfl) rfl h1

set_option tactic.hygienic false in
theorem shelf_told (n : Nat) {ks : List Key} {ts : List T} {tr q : T} {xs : List Int} {qs : List T} (hx : xs.length ≤ 900) (h : EachN n ks ts xs qs) (hn : callT (run (n + 11)) .numbers [shS ks ts tr] = some (.list (xs.map .int))) (ht : callT (run (n + 12)) .told [tr] = some q) :
    callT (run (n + 15)) .shelfTold [shS ks ts tr] = some (.tup [.tup (rws xs qs), q]) := by
  let S := shS ks ts tr
  let Γ0 : Ga := [(Str.ofString "self", .t S)]
  let Γ : Ga := [(Str.ofString "self", .t S), (Str.ofString "rows", .t (.tup (rws xs qs)))]
  have hp : (rws xs qs).length ≤ xs.length := by
    clear h hx hn
    induction xs generalizing qs with
    | nil => exact Nat.zero_le _
    | cons x xs ih => induction qs using List.casesOn with
      | nil => exact Nat.zero_le _
      | cons q qs => exact Nat.succ_le_succ ih
  let E0 := exOf (st .shelfTold 0)
  let E1 := exOf (st .shelfTold 1)
  refine callT_of (R := run (n + 14)) (b := [st .shelfTold 0, st .shelfTold 1]) (σ₁ := [.frz (.list (rws xs qs))]) (v := .t (.tup [.tup (rws xs qs), q])) (Γ₁ := Γ) (by kernel_rfl) (by kernel_rfl) rfl ?_ rfl
  refine x_next (Γ₁ := Γ) (σ₁ := [.frz (.list (rws xs qs))]) (s_asg (x := Str.ofString "rows") (e := E0) (v := .t (.tup (rws xs qs))) (by kernel_rfl) (by kernel_rfl) ?_ (by kernel_rfl)) (x_ret (s_ret (e := E1) (by kernel_rfl) ?_))
  · refine (e_run (n + 13) ⟨FN.shelfTold.names⟩ Γ0 [] E0).trans ?_
    rw [show stepE (run (n + 13)) ⟨FN.shelfTold.names⟩ Γ0 [] E0 = calE (run (n + 13)) ⟨FN.shelfTold.names⟩ Γ0 [] (Str.ofString "tuple") [stL] from by kernel_rfl]
    refine cal_any (f := .bi .tuple) (as := [.own 0]) (σ₁ := [.list (rws xs qs)]) (by kernel_rfl) (evs_cons (by kernel_rfl) ?_ rfl) ?_
    · refine (e_run (n + 12) ⟨FN.shelfTold.names⟩ Γ0 [] stL).trans ?_
      rw [show stepE (run (n + 12)) ⟨FN.shelfTold.names⟩ Γ0 [] stL = lcE (run (n + 12)) ⟨FN.shelfTold.names⟩ Γ0 [] (eltOf stL) shG.1 shG.2.1 shG.2.2.1 shG.2.2.2 from by kernel_rfl]
      refine lc_e (σ₁ := []) (comp_e (vs := xs.map T.int) (σ₁ := []) (by kernel_rfl) ?_ ?_ ?_)
      · let M := mOf shG.2.1
        refine src_call (v := .t (.list (xs.map T.int))) (t := .list (xs.map T.int)) (by kernel_rfl) ?_ rfl rfl
        refine (e_run (n + 11) ⟨FN.shelfTold.names⟩ Γ0 [] shG.2.1).trans ?_
        rw [show stepE (run (n + 11)) ⟨FN.shelfTold.names⟩ Γ0 [] shG.2.1 = mthE (run (n + 11)) ⟨FN.shelfTold.names⟩ Γ0 [] M.1 M.2.1 M.2.2.1 M.2.2.2.1 M.2.2.2.2 from by kernel_rfl]
        exact mth_def (c := .Shelf) (f := .numbers) (v := .t S) (as := []) (σ₁ := []) (σ₂ := []) (by kernel_rfl) (by kernel_rfl) rfl (by kernel_rfl) (by kernel_rfl) (by kernel_rfl) rfl rfl hn
      · rw [List.length_map]; exact Nat.ble_eq_true_of_le (by omega)
      · exact rows_turns n ks ts tr xs qs h Γ0 (.inl rfl)
    · exact bis_t (ts := [.list (rws xs qs)]) rfl rfl (tuple_bi (Nat.le_trans hp (Nat.le_trans hx (by decide))))
  · let σ : Sg := [.frz (.list (rws xs qs))]
    refine (e_run (n + 13) ⟨FN.shelfTold.names⟩ Γ σ E1).trans ?_
    rw [show stepE (run (n + 13)) ⟨FN.shelfTold.names⟩ Γ σ E1 = tupE (run (n + 13)) ⟨FN.shelfTold.names⟩ Γ σ [arg E1 0, arg E1 1] from by kernel_rfl]
    refine tup_of (vs := [.t (.tup (rws xs qs)), .t q]) (σ₁ := σ) ?_ rfl rfl
    refine evs_cons (σ₁ := σ) (by kernel_rfl) (by kernel_rfl) (evs_cons (σ₁ := σ) (by kernel_rfl) ?_ rfl)
    refine (e_run (n + 12) ⟨FN.shelfTold.names⟩ Γ σ (arg E1 1)).trans ?_
    rw [show stepE (run (n + 12)) ⟨FN.shelfTold.names⟩ Γ σ (arg E1 1) = calE (run (n + 12)) ⟨FN.shelfTold.names⟩ Γ σ (Str.ofString "told_objects") (argsOf (arg E1 1)) from by kernel_rfl]
    exact cal_pure (f := .told) (as := [.t tr]) (σ₁ := σ) (by kernel_rfl) (by kernel_rfl) (by kernel_rfl) rfl ht

set_option tactic.hygienic false in
theorem plain_int (n : Nat) (x : Int) : plain n (.int x) = true := by cases n <;> rfl
theorem rws_plain {d : Nat} : ∀ (xs : List Int) (qs : List T) (_ : ∀ q ∈ qs, plain d q = true), ∀ p ∈ rws xs qs, plain (d + 1) p = true
  | [], _, _, p, hp => by cases hp
  | _ :: _, [], _, p, hp => by cases hp
  | x :: xs, q :: qs, h, p, hp => by
    rcases List.mem_cons.mp hp with rfl | hp
    · refine plain_tup fun t ht => ?_
      rcases List.mem_cons.mp ht with rfl | ht
      · exact plain_int _ _
      · rcases List.mem_cons.mp ht with rfl | ht
        · exact plain_int _ _
        · rcases List.mem_cons.mp ht with rfl | ht
          · exact h _ (.head _)
          · cases ht
    · exact rws_plain xs qs (fun q hq => h q (.tail _ hq)) p hp

/-  the shelf is told, the same at any fuel -/
set_option tactic.hygienic false in
theorem sh_told {L row w1 w2 w3 w4 : List Int} {vs : List Vv} (hR : LRow L row) (h1 : w1 ∈ ws) (h2 : w2 ∈ ws) (h3 : w3 ∈ ws) (h4 : w4 ∈ ws) (hv : Fv vs) :
    ∃ r, eqT 50 (.tup r) (.tup r) = true ∧ ∀ m, callT (run (m + 70)) .shelfTold [shL L row w1 w2 w3 w4 (entsT 0 vs)] = some (.tup r) := by
  have hD := tld_first h1 h2 h3 h4 hR.ws
  have hroot := fun n (h : n ≤ 3) => tld_root (n := n) h hR.lst hD rfl rfl
  let ks : List Key := .i 10 :: .i 11 :: .i 12 :: .i 13 :: ((fldNums (entsT 0 vs).length).map Key.i ++ [.i 1])
  let ts : List T := ocgT :: ocgT :: ocgT :: ocgT :: (entsT 0 vs ++ [.tup [.int 0, rootT (refsT L) (fstT row w1 w2 w3 w4) (entsT 0 vs).length]])
  have key : ∀ (xs : List Int) (_ : ∀ x ∈ xs, ∃ t, lkD (.i x) ks ts = some (some (.tup [.int 0, t])) ∧ Tld 61 11 t), ∃ qs : List T, (∀ q ∈ qs, plain 11 q = true) ∧ ∀ m, EachN (m + 51) ks ts xs qs := by
    intro xs h
    induction xs with
    | nil => exact ⟨[], (fun q hq => by cases hq), fun m => trivial⟩
    | cons x xs ih =>
      obtain ⟨qs, a, b⟩ := ih fun y hy => h y (.tail _ hy)
      obtain ⟨t, c, r, e, f⟩ := h x (.head _)
      refine ⟨r :: qs, fun q hq => ?_, fun m => ⟨⟨t, c, f m⟩, b m⟩⟩
      rcases List.mem_cons.mp hq with rfl | hq
      · exact e
      · exact a q hq
  obtain ⟨qt, pt, ht⟩ := tld_trail
  have fin : ∀ (xs : List Int) (_ : xs.length ≤ 900) (_ : ∀ x ∈ xs, ∃ t, lkD (.i x) ks ts = some (some (.tup [.int 0, t])) ∧ Tld 61 11 t) (_ : ∀ m, callT (run (m + 20)) .numbers [shS ks ts trailT] = some (.list (xs.map .int))),
      ∃ r, eqT 50 (.tup r) (.tup r) = true ∧ ∀ m, callT (run (m + 70)) .shelfTold [shS ks ts trailT] = some (.tup r) := by
    intro xs hx h hn
    obtain ⟨qs, a, b⟩ := key xs h
    refine ⟨[.tup (rws xs qs), qt], plain_eq 50 _ (plain_le (n := 14) (by decide) (plain_tup fun t hh => ?_)), fun m => shelf_told (m + 55) hx (b (m + 4)) (hn (m + 46)) (ht (m + 23))⟩
    rcases List.mem_cons.mp hh with rfl | hh
    · exact plain_tup (rws_plain xs qs a)
    · rcases List.mem_cons.mp hh with rfl | hh
      · exact plain_le (by decide) pt
      · first | exact nn hh | exact nf hh | cases hh
  have ocg : ∀ k, k = ocgT → ∃ t, some (some k) = some (some (T.tup [.int 0, t])) ∧ Tld 61 11 t := fun k e => by
    subst e; exact ⟨_, rfl, tld_up tld_ocg (by decide) (by decide)⟩
  cases hv with
  | n0 =>
    refine fin [1, 10, 11, 12, 13] (by decide) ?_ fun m => by kernel_rfl
    intro x hx
    simp only [List.mem_cons, List.not_mem_nil, or_false] at hx
    rcases hx with rfl | rfl | rfl | rfl | rfl
    · exact ⟨_, by kernel_rfl, hroot 0 (by decide)⟩
    all_goals exact ⟨ocgD, by kernel_rfl, tld_up tld_ocg (by decide) (by decide)⟩
  | n1 a =>
    refine fin [1, 10, 11, 12, 13, 20] (by decide) ?_ fun m => by kernel_rfl
    intro x hx
    simp only [List.mem_cons, List.not_mem_nil, or_false] at hx
    rcases hx with rfl | rfl | rfl | rfl | rfl | rfl
    · exact ⟨_, by kernel_rfl, hroot 1 (by decide)⟩
    · exact ⟨ocgD, by kernel_rfl, tld_up tld_ocg (by decide) (by decide)⟩
    · exact ⟨ocgD, by kernel_rfl, tld_up tld_ocg (by decide) (by decide)⟩
    · exact ⟨ocgD, by kernel_rfl, tld_up tld_ocg (by decide) (by decide)⟩
    · exact ⟨ocgD, by kernel_rfl, tld_up tld_ocg (by decide) (by decide)⟩
    · exact ⟨headT 0 a, by kernel_rfl, tld_up (tld_head (by decide) a) (by decide) (by decide)⟩
  | n2 a b =>
    refine fin [1, 10, 11, 12, 13, 20, 21] (by decide) ?_ fun m => by kernel_rfl
    intro x hx
    simp only [List.mem_cons, List.not_mem_nil, or_false] at hx
    rcases hx with rfl | rfl | rfl | rfl | rfl | rfl | rfl
    · exact ⟨_, by kernel_rfl, hroot 2 (by decide)⟩
    · exact ⟨ocgD, by kernel_rfl, tld_up tld_ocg (by decide) (by decide)⟩
    · exact ⟨ocgD, by kernel_rfl, tld_up tld_ocg (by decide) (by decide)⟩
    · exact ⟨ocgD, by kernel_rfl, tld_up tld_ocg (by decide) (by decide)⟩
    · exact ⟨ocgD, by kernel_rfl, tld_up tld_ocg (by decide) (by decide)⟩
    · exact ⟨headT 0 a, by kernel_rfl, tld_up (tld_head (by decide) a) (by decide) (by decide)⟩
    · exact ⟨headT 1 b, by kernel_rfl, tld_up (tld_head (by decide) b) (by decide) (by decide)⟩
  | n3 a b c =>
    refine fin [1, 10, 11, 12, 13, 20, 21, 22] (by decide) ?_ fun m => by kernel_rfl
    intro x hx
    simp only [List.mem_cons, List.not_mem_nil, or_false] at hx
    rcases hx with rfl | rfl | rfl | rfl | rfl | rfl | rfl | rfl
    · exact ⟨_, by kernel_rfl, hroot 3 (by decide)⟩
    · exact ⟨ocgD, by kernel_rfl, tld_up tld_ocg (by decide) (by decide)⟩
    · exact ⟨ocgD, by kernel_rfl, tld_up tld_ocg (by decide) (by decide)⟩
    · exact ⟨ocgD, by kernel_rfl, tld_up tld_ocg (by decide) (by decide)⟩
    · exact ⟨ocgD, by kernel_rfl, tld_up tld_ocg (by decide) (by decide)⟩
    · exact ⟨headT 0 a, by kernel_rfl, tld_up (tld_head (by decide) a) (by decide) (by decide)⟩
    · exact ⟨headT 1 b, by kernel_rfl, tld_up (tld_head (by decide) b) (by decide) (by decide)⟩
    · exact ⟨headT 2 c, by kernel_rfl, tld_up (tld_head (by decide) c) (by decide) (by decide)⟩
end Mine
end
section
set_option maxRecDepth 100000
set_option autoImplicit false
namespace Mine
open PySem

inductive All2 {α β : Type} (P : α → β → Prop) : List α → List β → Prop
  | nil : All2 P [] []
  | cons {a : α} {b : β} {l : List α} {r : List β} (h : P a b) (t : All2 P l r) : All2 P (a :: l) (b :: r)
section
variable {R : Rec} {cx : Cx} {Γ Γ' Γ₁ : Ga} {σ σ₁ σ₂ σ₃ : Sg}
/-  a comprehension whose turns change nothing -/
set_option tactic.hygienic false in
theorem comp_map {tg elt : Expr} {ifs : List Expr} (J : Ga → Prop) (P : T → T → Prop) (h : ∀ v t, P v t → ∀ Γ, J Γ → ∃ Γ' a, bindT cx tg v Γ = some Γ' ∧ J Γ' ∧ andsB R cx Γ' σ ifs = some (true, σ) ∧ R.e cx Γ' σ elt = some (a, σ) ∧ frz σ a = some (t, σ)) :
    ∀ (vs ts : List T), All2 P vs ts → ∀ Γ, J Γ → compL R cx tg elt ifs Γ σ vs = some (ts, σ) := by
  intro vs ts hh
  induction hh with
  | nil => intro Γ _; rfl
  | cons p q ih =>
    intro Γ j
    obtain ⟨Γ', a, h1, h2, h3, h4, h5⟩ := h _ _ p Γ j
    exact comp_cons h1 h3 h4 h5 (ih Γ' h2)
end

theorem strsOf_strsT : ∀ l : List Str, strsOf (strsT l) = some l
  | [] => rfl
  | x :: r => by
    show (strsOf (strsT r)).map (x :: ·) = _
    rw [strsOf_strsT r]; rfl
noncomputable def nl : Str := Str.ofString "\n"
noncomputable def rowsS : List Str → Str
  | [] => Str.ofString "none"
  | x :: r => joinS nl (x :: r)
noncomputable abbrev Fine (l : List Str) : Prop := l.length ≤ 100 ∧ l.all shortS = true
set_option tactic.hygienic false in
theorem join_ok (σ : Sg) (i : Nat) (l : List Str) (v : AV) (h : look σ v = some (.list (strsT l))) (hl : Fine l) : joinM σ (.t (.str nl)) [v] = some (.t (.str (joinS nl l)), σ) := by
  unfold joinM
  simp only [h, strsOf_strsT]
  rw [if_pos]
  rw [sizeOk_of (by have := hl.1; omega), hl.2]
  decide +kernel
set_option tactic.hygienic false in
theorem len_ok (l : List Str) (hl : Fine l) : callBi .len [.list (strsT l)] = some (.t (.int l.length)) := by
  have h := len_bi (ts := strsT l) (by rw [strsT, List.length_map]; exact Nat.le_trans hl.1 (by decide))
  rw [h, strsT, List.length_map]

noncomputable def rtT : Expr := exOf (st .rows_text 0)
noncomputable def ifOf : Expr → Expr × Expr × Expr
  | .IfExp c a b _ => (c, a, b)
  | _ => (noE, noE, noE)
set_option tactic.hygienic false in
theorem ifE_of {R : Rec} {cx : Cx} {Γ : Ga} {σ σ₁ : Sg} {c a b : Expr} {k : Bool} {y : Option (AV × Sg)} (h1 : R.b cx Γ σ c = some (k, σ₁)) (h2 : R.e cx Γ σ₁ (if k then a else b) = y) : ifE R cx Γ σ c a b = y := by
  simp only [ifE, h1]
  cases k <;> exact h2
set_option tactic.hygienic false in
theorem cal_len {R : Rec} {cx : Cx} {Γ : Ga} {σ σ₁ : Sg} {x : Str} {args : List Expr} {v : AV} {t r : T} (h1 : nameV cx Γ x = some (.t (.bi .len))) (h2 : evs R cx Γ σ args = some ([v], σ₁)) (h3 : look σ₁ v = some t) (h4 : callBi .len [t] = some (.t r)) : calE R cx Γ σ x args = some (.t r, σ₁) := by
  simp only [calE, h1, h2, callV, isLen, lenV, h3, h4, Option.map_some, ansV]
set_option tactic.hygienic false in
theorem cmp_gt {R : Rec} {cx : Cx} {Γ : Ga} {σ σ₁ σ₂ : Sg} {l c : Expr} {x y : Int} (hs : notSet c = true) (h1 : R.e cx Γ σ l = some (.t (.int x), σ₁)) (h2 : R.e cx Γ σ₁ c = some (.t (.int y), σ₂)) : cmpB R cx Γ σ l [.Gt] [c] = some (decide (y < x), σ₂) := by
  exact cmp_one hs h1 h2 rfl
set_option tactic.hygienic false in
theorem mth_join {R : Rec} {cx : Cx} {Γ : Ga} {σ σ₁ : Sg} {o : Expr} {n : Str} {ap p : Pos} {args : List Expr} {l : List Str} {v : AV} (hn : n = Str.ofString "join") (h0 : (plainBase o && Nat.beq ap.endLine p.line && Nat.blt args.length 25) = true)
    (h1 : R.e cx Γ σ o = some (.t (.str nl), σ)) (h2 : evs R cx Γ σ args = some ([v], σ₁)) (h : look σ₁ v = some (.list (strsT l))) (hl : Fine l) : mthE R cx Γ σ o n ap args p = some (.t (.str (joinS nl l)), σ₁) := by
  subst hn
  have hc : clsOf σ (.t (.str nl)) = none := rfl
  have hk : mkOk (Str.ofString "join") (mkOf σ (.t (.str nl))) = true := by kernel_rfl
  have hM : callM σ₁ (.t (.str nl)) (Str.ofString "join") [v] = joinM σ₁ (.t (.str nl)) [v] := by
    unfold callM
    rw [if_neg (by decide +kernel), if_neg (by decide +kernel), if_neg (by decide +kernel), if_neg (by decide +kernel), if_pos (by decide +kernel)]
  simp only [mthE, h0, h1, hc, hk, h2, hM, join_ok σ₁ 0 l v h hl]

set_option tactic.hygienic false in
theorem rows_text_ok (m : Nat) (l : List Str) (hl : Fine l) : callT (run (m + 20)) .rows_text [.list (strsT l)] = some (.str (rowsS l)) := by
  let Γ : Ga := [(Str.ofString "rows", .t (.list (strsT l)))]
  let C := (ifOf rtT).1
  let A := (ifOf rtT).2.1
  refine callT_of (R := run (m + 19)) (b := [st .rows_text 0]) (σ₁ := []) (v := .t (.str (rowsS l))) (Γ₁ := Γ) (by kernel_rfl) (by kernel_rfl) rfl (x_ret (s_ret (e := rtT) (by kernel_rfl) ?_)) rfl
  refine (e_run (m + 18) ⟨FN.rows_text.names⟩ Γ [] rtT).trans ?_
  rw [show stepE (run (m + 18)) ⟨FN.rows_text.names⟩ Γ [] rtT = ifE (run (m + 18)) ⟨FN.rows_text.names⟩ Γ [] C A (ifOf rtT).2.2 from by kernel_rfl]
  refine ifE_of (k := decide ((0 : Int) < (l.length : Int))) (σ₁ := []) ?_ ?_
  · refine (b_run (m + 17) ⟨FN.rows_text.names⟩ Γ [] C).trans ?_
    rw [show stepB (run (m + 17)) ⟨FN.rows_text.names⟩ Γ [] C = cmpB (run (m + 17)) ⟨FN.rows_text.names⟩ Γ [] (cmpOf C).1 [.Gt] [(cmpOf C).2] from by kernel_rfl]
    refine cmp_gt (σ₁ := []) (by kernel_rfl) ?_ (by kernel_rfl)
    refine (e_run (m + 16) ⟨FN.rows_text.names⟩ Γ [] (cmpOf C).1).trans ?_
    rw [show stepE (run (m + 16)) ⟨FN.rows_text.names⟩ Γ [] (cmpOf C).1 = calE (run (m + 16)) ⟨FN.rows_text.names⟩ Γ [] (Str.ofString "len") (argsOf (cmpOf C).1) from by kernel_rfl]
    exact cal_len (v := .t (.list (strsT l))) (by kernel_rfl) (by kernel_rfl) rfl (len_ok l hl)
  · induction l using List.casesOn with
    | nil => kernel_rfl
    | cons x r =>
      rw [show decide ((0 : Int) < ((x :: r).length : Int)) = true from decide_eq_true (by simp only [List.length_cons]; omega), if_pos rfl]
      refine (e_run (m + 17) ⟨FN.rows_text.names⟩ Γ [] A).trans ?_
      rw [show stepE (run (m + 17)) ⟨FN.rows_text.names⟩ Γ [] A = mthE (run (m + 17)) ⟨FN.rows_text.names⟩ Γ [] (mOf A).1 (mOf A).2.1 (mOf A).2.2.1 (mOf A).2.2.2.1 (mOf A).2.2.2.2 from by kernel_rfl]
      exact mth_join (l := x :: r) (v := .t (.list (strsT (x :: r)))) (by kernel_rfl) (by kernel_rfl) (by kernel_rfl) (by kernel_rfl) rfl hl

/-! a field's flaws, as lines -/
noncomputable def colon (n : Int) (w : Str) : Str := catS (catS (textInt n) (Str.ofString ": ")) w
noncomputable def dotS : Str := Str.ofString "a dot in T"
noncomputable def longS : Str := Str.ofString "too long"
inductive Flw : T → T → Prop
  | d1 : Flw (.tup [.int 21, .str dotS]) (.str (colon 21 dotS))
  | l0 : Flw (.tup [.int 20, .str longS]) (.str (colon 20 longS))
  | l1 : Flw (.tup [.int 21, .str longS]) (.str (colon 21 longS))
  | l2 : Flw (.tup [.int 22, .str longS]) (.str (colon 22 longS))
noncomputable def flawS (i : Nat) (v : Vv) : List Str := (if Nat.beq i 1 then [colon (20 + i) dotS] else []) ++ (if v = .abcd then [colon (20 + i) longS] else [])
noncomputable def flawsS : Nat → List Vv → List Str
  | _, [] => []
  | i, v :: r => flawS i v ++ flawsS (i + 1) r
set_option tactic.hygienic false in
theorem flw_app {a b : List T} {c d : List T} (h : All2 Flw a c) (k : All2 Flw b d) : All2 Flw (a ++ b) (c ++ d) := by
  induction h with
  | nil => exact k
  | cons p _ ih => exact .cons p ih
set_option tactic.hygienic false in
theorem flaw_ok {i : Nat} (h : i ≤ 2) (v : Vv) : All2 Flw (flawT i v) (strsT (flawS i v)) := by
  rcases i with _ | _ | _ | i
  · cases v <;> first | exact .nil | exact .cons .l0 .nil
  · cases v <;> first | exact .cons .d1 .nil | exact .cons .d1 (.cons .l1 .nil)
  · cases v <;> first | exact .nil | exact .cons .l2 .nil
  · omega
set_option tactic.hygienic false in
theorem flaws_flw {vs : List Vv} (h : Fv vs) : All2 Flw (flawsT 0 vs) (strsT (flawsS 0 vs)) := by
  have e : ∀ a b : List Str, strsT (a ++ b) = strsT a ++ strsT b := fun a b => List.map_append
  cases h with
  | n0 => exact .nil
  | n1 a => unfold flawsS flawsT; rw [e]; exact flw_app (flaw_ok (by decide) a) .nil
  | n2 a b => unfold flawsS flawsT; rw [e]; unfold flawsS flawsT; rw [e]; exact flw_app (flaw_ok (by decide) a) (flw_app (flaw_ok (by decide) b) .nil)
  | n3 a b c => unfold flawsS flawsT; rw [e]; unfold flawsS flawsT; rw [e]; unfold flawsS flawsT; rw [e]; exact flw_app (flaw_ok (by decide) a) (flw_app (flaw_ok (by decide) b) (flw_app (flaw_ok (by decide) c) .nil))
set_option tactic.hygienic false in
theorem flawsS_len {vs : List Vv} (h : Fv vs) : (flawsS 0 vs).length ≤ 6 := by
  have key : ∀ i v, (flawS i v).length ≤ 2 := fun i v => by
    unfold flawS; rw [List.length_append]; have a : (if Nat.beq i 1 then [colon (20 + i) dotS] else []).length ≤ 1 := by split <;> simp
    have b : (if v = .abcd then [colon (20 + i) longS] else []).length ≤ 1 := by split <;> simp
    omega
  cases h with
  | n0 => decide
  | n1 a => simp only [flawsS, List.length_append, List.length_nil]; have := key 0 a; omega
  | n2 a b => simp only [flawsS, List.length_append, List.length_nil]; have := key 0 a; have := key (0 + 1) b; omega
  | n3 a b c => simp only [flawsS, List.length_append, List.length_nil]; have := key 0 a; have := key (0 + 1) b; have := key (0 + 1 + 1) c; omega
end Mine
end
section
set_option maxRecDepth 100000
set_option autoImplicit false
namespace Mine
open PySem

set_option tactic.hygienic false in
theorem all_app {α : Type} {p : α → Bool} {a b : List α} (h : a.all p = true) (k : b.all p = true) : (a ++ b).all p = true := by rw [List.all_append, h, k]; rfl
set_option tactic.hygienic false in
theorem tl_short {L : List Int} {W : Str} (hW : Wd W ∨ W = oW) {w : List Int} (h : w ∈ ws) : (tl L W w).all shortS = true := by
  rw [List.all_eq_true]
  intro x hx
  obtain ⟨n, hn, hx⟩ := List.mem_flatMap.mp hx
  have e := ws_nm h n hn
  unfold tellS at hx
  split at hx
  · cases hx
  · rcases List.mem_cons.mp hx with rfl | hx
    · rcases hW with hW | rfl
      · cases hW <;> cases e <;> kernel_rfl
      · cases e <;> kernel_rfl
    · cases hx
set_option tactic.hygienic false in
theorem LF_fine {L row w1 w2 w3 w4 : List Int} (h1 : w1 ∈ ws) (h2 : w2 ∈ ws) (h3 : w3 ∈ ws) (h4 : w4 ∈ ws) : (LF L row w1 w2 w3 w4).length ≤ 17 ∧ (LF L row w1 w2 w3 w4).all shortS = true := by
  have hc : (crowdS (crowd row w2)).length ≤ 1 := by unfold crowdS; split <;> simp
  have hs : (crowdS (crowd row w2)).all shortS = true := by unfold crowdS; split <;> first | rfl | kernel_rfl
  refine ⟨?_, all_app (all_app (all_app (all_app (tl_short (.inl .on) h1) (tl_short (.inl .off) h2)) (tl_short (.inl .locked) h3)) hs) (tl_short (.inr rfl) h4)⟩
  unfold LF
  simp only [List.length_append]
  have a1 := Nat.le_trans (tl_len L (Str.ofString "ON") w1) (ws_len h1)
  have a2 := Nat.le_trans (tl_len L (Str.ofString "OFF") w2) (ws_len h2)
  have a3 := Nat.le_trans (tl_len L (Str.ofString "Locked") w3) (ws_len h3)
  have a4 := Nat.le_trans (tl_len L oW w4) (ws_len h4)
  omega
set_option tactic.hygienic false in
theorem flw_short {ts us : List T} (h : All2 Flw ts us) : ∀ l : List Str, us = strsT l → l.all shortS = true := by
  induction h with
  | nil => intro l e; cases l with | nil => rfl | cons _ _ => first | exact nn e | exact nf e | cases e
  | cons p _ ih =>
    intro l e
    induction l using List.casesOn with
    | nil => first | exact nn e | exact nf e | cases e
    | cons x r =>
      injection e with e1 e2
      have := ih r e2
      rw [List.all_cons, this, Bool.and_true]
      cases p <;> (injection e1 with e1; subst e1; kernel_rfl)
set_option tactic.hygienic false in
theorem all_fine {L row w1 w2 w3 w4 : List Int} {vs : List Vv} (h1 : w1 ∈ ws) (h2 : w2 ∈ ws) (h3 : w3 ∈ ws) (h4 : w4 ∈ ws) (hv : Fv vs) : Fine (LF L row w1 w2 w3 w4 ++ flawsS 0 vs) := by
  obtain ⟨a, b⟩ := LF_fine (L := L) (row := row) h1 h2 h3 h4
  have c := flawsS_len hv
  exact ⟨by rw [List.length_append]; omega, all_app b (flw_short (flaws_flw hv) _ rfl)⟩

noncomputable def lnG (n : Int) (w : Str) : Ga := [(Str.ofString "number", .t (.int n)), (Str.ofString "what", .t (.str w))]
noncomputable def Jn2 (Γ : Ga) : Prop := Γ = [] ∨ ∃ a b, Γ = [(Str.ofString "number", a), (Str.ofString "what", b)]
section
variable (m : Nat) {L row w1 w2 w3 w4 : List Int} {vs : List Vv} (hR : LRow L row) (h1 : w1 ∈ ws) (h2 : w2 ∈ ws) (h3 : w3 ∈ ws) (h4 : w4 ∈ ws) (hv : Fv vs)
include hR h1 h2 h3 h4 hv
set_option tactic.hygienic false in
theorem flaws_ok : callT (run (m + 65)) .flaws_text [shL L row w1 w2 w3 w4 (entsT 0 vs)] = some (.str (rowsS (LF L row w1 w2 w3 w4 ++ flawsS 0 vs))) := by
  let sh := shL L row w1 w2 w3 w4 (entsT 0 vs)
  let l1 := LF L row w1 w2 w3 w4
  let l2 := flawsS 0 vs
  let Γ0 : Ga := [(Str.ofString "shelf", .t sh)]
  let Γ : Ga := [(Str.ofString "shelf", .t sh), (Str.ofString "rows", .own 0)]
  let E0 := exOf (st .flaws_text 0)
  let s1 := st .flaws_text 1
  let M := mOf (exOf s1)
  let C := (M.2.2.2.1[0]?).getD noE
  let g := genOf C
  let E2 := exOf (st .flaws_text 2)
  obtain ⟨hl, _⟩ := LF_fine (L := L) (row := row) h1 h2 h3 h4
  have hf := flawsS_len hv
  have hl1 : l1.length ≤ 17 := hl
  have hl2 : l2.length ≤ 6 := hf
  have es : strsT (l1 ++ l2) = strsT l1 ++ strsT l2 := List.map_append
  have len1 : (strsT l1).length = l1.length := List.length_map ..
  have len2 : (strsT l2).length = l2.length := List.length_map ..
  refine callT_of (R := run (m + 64)) (b := [st .flaws_text 0, st .flaws_text 1, st .flaws_text 2]) (σ₁ := [.frz (.list (strsT l1 ++ strsT l2)), .frz (.list (strsT l2))]) (v := .t (.str (rowsS (l1 ++ l2)))) (Γ₁ := Γ) (by kernel_rfl) (by kernel_rfl) rfl ?_ rfl
  refine x_next (Γ₁ := Γ) (σ₁ := [.list (strsT l1)]) (s_asg (x := Str.ofString "rows") (e := E0) (v := .own 0) (by kernel_rfl) (by kernel_rfl) ?_ (by kernel_rfl)) ?_
  · refine (e_run (m + 63) ⟨FN.flaws_text.names⟩ Γ0 [] E0).trans ?_
    rw [show stepE (run (m + 63)) ⟨FN.flaws_text.names⟩ Γ0 [] E0 = calE (run (m + 63)) ⟨FN.flaws_text.names⟩ Γ0 [] (Str.ofString "list") [arg E0 0] from by kernel_rfl]
    refine cal_any (f := .bi .list) (as := [.t (.list (strsT l1))]) (σ₁ := []) (by kernel_rfl) (evs_cons (σ₁ := []) (by kernel_rfl) ?_ rfl) ?_
    · refine (e_run (m + 62) ⟨FN.flaws_text.names⟩ Γ0 [] (arg E0 0)).trans ?_
      rw [show stepE (run (m + 62)) ⟨FN.flaws_text.names⟩ Γ0 [] (arg E0 0) = calE (run (m + 62)) ⟨FN.flaws_text.names⟩ Γ0 [] (Str.ofString "layer_faults") (argsOf (arg E0 0)) from by kernel_rfl]
      exact cal_pure (f := .layer_faults) (as := [.t sh]) (σ₁ := []) (by kernel_rfl) (by kernel_rfl) (by kernel_rfl) rfl (layers_ok (m + 2) hR hv.few h1 h2 h3 h4)
    · exact bis_new (σ := []) (σ₁ := []) (as := [.t (.list (strsT l1))]) (ts := [.list (strsT l1)]) rfl rfl (list_bi (by omega))
  refine x_next (Γ₁ := Γ) (σ₁ := [.list (strsT l1 ++ strsT l2), .frz (.list (strsT l2))]) (s_expr (by kernel_rfl) ?_) (x_ret (s_ret (e := E2) (by kernel_rfl) ?_))
  · refine (e_run (m + 63) ⟨FN.flaws_text.names⟩ Γ [.list (strsT l1)] (exOf s1)).trans ?_
    rw [show ∀ (σ : Sg), stepE (run (m + 63)) ⟨FN.flaws_text.names⟩ Γ σ (exOf s1) = mthE (run (m + 63)) ⟨FN.flaws_text.names⟩ Γ σ M.1 M.2.1 M.2.2.1 [C] M.2.2.2.2 from fun _ => by kernel_rfl]
    refine mth_extend (i := 0) (ts := strsT l1) (ts' := strsT l1) (us := strsT l2) (v := .own 1) (σ₁ := [.list (strsT l1), .list (strsT l2)]) (σ₂ := [.list (strsT l1), .frz (.list (strsT l2))]) (by kernel_rfl) (by kernel_rfl) (by kernel_rfl) rfl (evs_cons (σ₁ := [.list (strsT l1), .list (strsT l2)]) (by kernel_rfl) ?_ rfl) rfl rfl (sizeOk_of (by omega))
    refine (e_run (m + 62) ⟨FN.flaws_text.names⟩ Γ [.list (strsT l1)] C).trans ?_
    rw [show ∀ (σ : Sg), stepE (run (m + 62)) ⟨FN.flaws_text.names⟩ Γ σ C = lcE (run (m + 62)) ⟨FN.flaws_text.names⟩ Γ σ (eltOf C) g.1 g.2.1 g.2.2.1 g.2.2.2 from fun _ => by kernel_rfl]
    refine lc_e (σ₁ := [.list (strsT l1)]) (comp_e (vs := flawsT 0 vs) (σ₁ := [.list (strsT l1)]) (by kernel_rfl) ?_ ?_ ?_)
    · refine src_call (v := .t (.list (flawsT 0 vs))) (σ₁ := [.list (strsT l1)]) (by kernel_rfl) ?_ rfl rfl
      refine (e_run (m + 61) ⟨FN.flaws_text.names⟩ Γ [.list (strsT l1)] g.2.1).trans ?_
      rw [show ∀ (σ : Sg), stepE (run (m + 61)) ⟨FN.flaws_text.names⟩ Γ σ g.2.1 = calE (run (m + 61)) ⟨FN.flaws_text.names⟩ Γ σ (Str.ofString "field_faults") (argsOf g.2.1) from fun _ => by kernel_rfl]
      exact cal_pure (f := .field_faults) (as := [.t sh]) (σ₁ := [.list (strsT l1)]) (by kernel_rfl) (by kernel_rfl) (by kernel_rfl) rfl (fields_ok (m + 20) (refsT L) (fstT row w1 w2 w3 w4) hv)
    · have : (flawsT 0 vs).length = (strsT l2).length := by
        have := flaws_flw hv
        revert this
        generalize flawsT 0 vs = a
        generalize hb : strsT (flawsS 0 vs) = b
        intro h
        clear hb
        induction h with
        | nil => rfl
        | cons _ _ ih => exact congrArg Nat.succ ih
      exact Nat.ble_eq_true_of_le (by omega)
    · refine comp_map Jn2 Flw ?_ _ _ (flaws_flw hv) _ (.inl (by kernel_rfl))
      intro v t hp Γ1 hJ
      have turn : ∀ (n : Int) (w : Str) (_ : (run (m + 62)).e ⟨g.2.2.2.names⟩ (lnG n w) [.list (strsT l1)] (eltOf C) = some (.t (.str (colon n w)), [.list (strsT l1)])), ∃ Γ' a, bindT ⟨g.2.2.2.names⟩ g.1 (.tup [.int n, .str w]) Γ1 = some Γ' ∧ Jn2 Γ' ∧
          andsB (run (m + 62)) ⟨g.2.2.2.names⟩ Γ' [.list (strsT l1)] g.2.2.1 = some (true, [.list (strsT l1)]) ∧ (run (m + 62)).e ⟨g.2.2.2.names⟩ Γ' [.list (strsT l1)] (eltOf C) = some (a, [.list (strsT l1)]) ∧ frz [.list (strsT l1)] a = some (.str (colon n w), [.list (strsT l1)]) := by
        intro n w he
        refine ⟨lnG n w, _, ?_, .inr ⟨_, _, rfl⟩, by kernel_rfl, he, rfl⟩
        rcases hJ with rfl | ⟨a, b, rfl⟩ <;> kernel_rfl
      cases hp with
      | d1 => exact turn 21 dotS (by kernel_rfl)
      | l0 => exact turn 20 longS (by kernel_rfl)
      | l1 => exact turn 21 longS (by kernel_rfl)
      | l2 => exact turn 22 longS (by kernel_rfl)
  · let σ : Sg := [.list (strsT l1 ++ strsT l2), .frz (.list (strsT l2))]
    refine (e_run (m + 63) ⟨FN.flaws_text.names⟩ Γ σ E2).trans ?_
    rw [show ∀ (σ : Sg), stepE (run (m + 63)) ⟨FN.flaws_text.names⟩ Γ σ E2 = calE (run (m + 63)) ⟨FN.flaws_text.names⟩ Γ σ (Str.ofString "rows_text") (argsOf E2) from fun _ => by kernel_rfl]
    refine cal_pure (f := .rows_text) (as := [.own 0]) (ts := [.list (strsT l1 ++ strsT l2)]) (σ₁ := σ) (by kernel_rfl) (by kernel_rfl) (by kernel_rfl) rfl ?_
    rw [← es]
    exact rows_text_ok (m + 43) (l1 ++ l2) (all_fine h1 h2 h3 h4 hv)
end
end Mine
end
section
set_option maxRecDepth 100000
set_option autoImplicit false
namespace Mine
open PySem

/-! rules: objects in a list -/
section
variable {σ τ : Sg} {i j : Nat} {o o' : OObj}
theorem get_lt (h : σ[i]? = some o) : i < σ.length := (List.getElem?_eq_some_iff.mp h).1
set_option tactic.hygienic false in
theorem get_app (h : σ[i]? = some o) : (σ ++ τ)[i]? = some o := by rw [List.getElem?_append_left (get_lt h)]; exact h
set_option tactic.hygienic false in
theorem get_new : (σ ++ [o])[σ.length]? = some o := by rw [List.getElem?_append_right (Nat.le_refl _), Nat.sub_self]; rfl
set_option tactic.hygienic false in
theorem set_new : (σ ++ [o]).set σ.length o' = σ ++ [o'] := by
  induction σ with
  | nil => rfl
  | cons a r ih => simp only [List.cons_append, List.length_cons, List.set_cons_succ, ih]
set_option tactic.hygienic false in
theorem get_self (h : σ[i]? = some o) : (σ.set i o')[i]? = some o' := by rw [List.getElem?_set_self (get_lt h)]
set_option tactic.hygienic false in
theorem get_other (h : σ[i]? = some o) (n : i ≠ j) : (σ.set j o')[i]? = some o := by rw [List.getElem?_set_ne (fun e => n e.symm)]; exact h
end

section
variable {R : Rec} {cx : Cx} {Γ Γ' Γ₁ : Ga} {σ σ₁ σ₂ σ₃ : Sg}
theorem bin_t {l r : Expr} {op : Operator} {x y t : T} (h1 : R.e cx Γ σ l = some (.t x, σ₁)) (h2 : R.e cx Γ σ₁ r = some (.t y, σ₂)) (h : binA op x y = some t) : binE R cx Γ σ l op r = some (.t t, σ₂) := bin_ok h1 h2 rfl rfl h
set_option tactic.hygienic false in
theorem sli_ok {o u : Expr} {v : AV} {n : Int} {ts : List T} (h1 : R.e cx Γ σ o = some (v, σ₁)) (h2 : R.e cx Γ σ₁ u = some (.t (.int n), σ₂)) (h3 : look σ₂ v = some (.list ts)) (a : 0 ≤ n) (b : n < 100000) (hz : sizeOk ts.length = true) :
    sliE R cx Γ σ o u = some (.own σ₂.length, σ₂ ++ [.list (ts.take n.toNat)]) := by
  simp only [sliE, h1, h2, h3, hz, decide_eq_true a, decide_eq_true b, Bool.and_self, if_true]
set_option tactic.hygienic false in
theorem cal_imp {x : Str} {args : List Expr} {f : FN} {as : List AV} {y : Option (AV × Sg)} (h1 : nameV cx Γ x = some (.t (.fn f))) (hp : isPure f = false) (h2 : evs R cx Γ σ args = some (as, σ₁)) (h3 : R.c f as σ₁ = y) : calE R cx Γ σ x args = y := by
  simp only [calE, h1, h2, callV, fnV, hp, h3]
set_option tactic.hygienic false in
theorem cmp_eq {l c : Expr} {x y : Int} (hs : notSet c = true) (h1 : R.e cx Γ σ l = some (.t (.int x), σ₁)) (h2 : R.e cx Γ σ₁ c = some (.t (.int y), σ₂)) : cmpB R cx Γ σ l [.Eq] [c] = some (decide (x = y), σ₂) := by
  exact cmp_one hs h1 h2 rfl
set_option tactic.hygienic false in
theorem ands_b {e : Expr} {b : Bool} (h : R.b cx Γ σ e = some (b, σ₁)) : andsB R cx Γ σ [e] = some (b, σ₁) := by
  cases b <;> simp only [andsB, h]
set_option tactic.hygienic false in
theorem s_un {s : Stmt} {x y z : Str} {i : Nat} {a b : T} (h : stepS R cx Γ σ s = asgUS cx Γ σ x y z) (h1 : nameV cx Γ z = some (.own i)) (h2 : σ[i]? = some (.list [a, b])) (h3 : bindN cx x (.t a) Γ = some Γ₁) (h4 : bindN cx y (.t b) Γ₁ = some Γ') : stepS R cx Γ σ s = some (.next, Γ', σ) := by
  rw [h]; simp only [asgUS, h1, h2, h3, h4]
set_option tactic.hygienic false in
theorem s_item {s : Stmt} {o k e : Expr} {v : AV} {i : Nat} {kt t : T} {n : Int} {ts : List T} (h : stepS R cx Γ σ s = asgBS R cx Γ σ o k e) (h1 : R.e cx Γ σ e = some (v, σ₁)) (h2 : R.e cx Γ σ₁ o = some (.own i, σ₁)) (h3 : R.e cx Γ σ₁ k = some (.t kt, σ₁)) (hk : keyOf kt = some (.i n)) (hf : frz σ₁ v = some (t, σ₂)) (h4 : σ₂[i]? = some (.list ts))
    (a : 0 ≤ n) (b : n < ts.length) (hz : sizeOk ts.length = true) : stepS R cx Γ σ s = some (.next, Γ, σ₂.set i (.list (ts.set n.toNat t))) := by
  rw [h]; simp only [asgBS, h1, h2, h3, hk, hf, h4, hz, decide_eq_true a, decide_eq_true b, Bool.and_self, if_true]
set_option tactic.hygienic false in
theorem s_key {s : Stmt} {o k e : Expr} {v : AV} {i : Nat} {kt t : T} {q : Key} {ks ks' : List Key} {ts ts' : List T} (h : stepS R cx Γ σ s = asgBS R cx Γ σ o k e) (h1 : R.e cx Γ σ e = some (v, σ₁)) (h2 : R.e cx Γ σ₁ o = some (.own i, σ₁)) (h3 : R.e cx Γ σ₁ k = some (.t kt, σ₁)) (hk : keyOf kt = some q) (hf : frz σ₁ v = some (t, σ₂)) (h4 : σ₂[i]? = some (.dict ks ts))
    (hp : putD q t ks ts = some (ks', ts')) : stepS R cx Γ σ s = some (.next, Γ, σ₂.set i (.dict ks' ts')) := by
  rw [h]; simp only [asgBS, h1, h2, h3, hk, hf, h4, hp]
set_option tactic.hygienic false in
theorem stepC_of {f : FN} {as : List AV} {full : List AV} {b : List Stmt} {v : AV} {Γ₁ : Ga} (hb : f.body = b) (hn : (Nat.ble as.length f.params.length && Nat.ble f.params.length (as.length + f.dflts.length)) = true)
    (hf : as ++ (f.dflts.drop (as.length + f.dflts.length - f.params.length)).map AV.t = full) (h1 : stepX R ⟨f.names⟩ (zipA f.params full) σ b = some (.ret v, Γ₁, σ₁)) : (stepR R).c f as σ = some (v, σ₁) := by
  show stepC R f as σ = _
  unfold stepC
  simp only [hn, if_true, hf, hb, h1]
set_option tactic.hygienic false in
theorem stepC_none {f : FN} {as : List AV} {full : List AV} {b : List Stmt} {Γ₁ : Ga} (hb : f.body = b) (hn : (Nat.ble as.length f.params.length && Nat.ble f.params.length (as.length + f.dflts.length)) = true)
    (hf : as ++ (f.dflts.drop (as.length + f.dflts.length - f.params.length)).map AV.t = full) (h1 : stepX R ⟨f.names⟩ (zipA f.params full) σ b = some (.next, Γ₁, σ₁)) : (stepR R).c f as σ = some (.t .none, σ₁) := by
  show stepC R f as σ = _
  unfold stepC
  simp only [hn, if_true, hf, hb, h1]
end

/-! the draws -/
noncomputable def tapeO (cells : List Int) (at_ : Int) : OObj := .list [intsT cells, .int at_]
set_option tactic.hygienic false in
theorem intOk_of {n : Int} (a : -1000000 ≤ n) (b : n ≤ 1000000) : intOk n = true := by unfold intOk; rw [decide_eq_true a, decide_eq_true b]; rfl
set_option tactic.hygienic false in
theorem int_at {cells : List Int} {n : Int} (a : 0 ≤ n) (b : n < cells.length) : ∃ c, itemT (intsT cells) (.int n) = some (.int c) ∨ 100000 ≤ n := by
  by_cases h : n < 100000
  · have hn : n.toNat < cells.length := by omega
    refine ⟨cells[n.toNat], .inl ?_⟩
    show (if decide (0 ≤ n) && decide (n < 100000) then (cells.map T.int)[n.toNat]? else none) = _
    rw [if_pos (by rw [decide_eq_true a, decide_eq_true h]; rfl), List.getElem?_map, List.getElem?_eq_getElem hn]; rfl
  · exact ⟨0, .inr (by omega)⟩

noncomputable abbrev dwC : Cx := ⟨FN.law_draw.names⟩
noncomputable def dwE : Expr := exOf (st .law_draw 2)
set_option tactic.hygienic false in
theorem fdiv_le {a n : Int} (ha : 0 ≤ a) (hb : a ≤ 1000) (hn : 0 < n) : Int.fdiv a n ≤ 1000 := by
  have e : Int.fdiv a n * n + Int.fmod a n = a := by rw [Int.mul_comm]; exact Int.mul_fdiv_add_fmod a n
  have x := Int.mul_le_mul_of_nonneg_left (show (1 : Int) ≤ n by omega) (Int.fdiv_nonneg ha (Int.le_of_lt hn))
  have y := Int.fmod_nonneg ha (Int.le_of_lt hn)
  omega
set_option tactic.hygienic false in
theorem draw_ok (m : Nat) {σ : Sg} {tp : Nat} {cells : List Int} {at_ k : Int} (h : σ[tp]? = some (tapeO cells at_)) (hc : 0 < cells.length) (hl : cells.length ≤ 100) (ha : 0 ≤ at_) (hb : at_ ≤ 1000) (hk : 0 < k) :
    ∃ v, 0 ≤ v ∧ v < k ∧ (run (m + 20)).c .law_draw [.own tp, .t (.int k)] σ = some (.t (.int v), σ.set tp (tapeO cells (at_ + 1))) := by
  let n : Int := cells.length
  have hn : 0 < n := by show (0 : Int) < (cells.length : Int); omega
  have hn' : n ≤ 100 := by show (cells.length : Int) ≤ 100; omega
  let Γ0 : Ga := [(Str.ofString "tape", .own tp), (Str.ofString "many", .t (.int k))]
  let Γ : Ga := Γ0 ++ [(Str.ofString "cells", .t (intsT cells)), (Str.ofString "at", .t (.int at_))]
  let σ' := σ.set tp (tapeO cells (at_ + 1))
  let x1 := Int.fmod at_ n
  have x1a : 0 ≤ x1 := Int.fmod_nonneg ha (by omega)
  have x1b : x1 < n := Int.fmod_lt_of_pos _ hn
  obtain ⟨c, hcell⟩ := int_at (cells := cells) x1a x1b
  have hcell : itemT (intsT cells) (.int x1) = some (.int c) := hcell.elim id fun q => by omega
  let x2 := Int.fdiv at_ n
  have x2a : 0 ≤ x2 := Int.fdiv_nonneg ha (by omega)
  have x2b : x2 ≤ 1000 := fdiv_le ha hb hn
  let x3 := Int.fdiv at_ 2
  have x3a : 0 ≤ x3 := Int.fdiv_nonneg ha (by decide)
  have x3b : x3 ≤ 1000 := fdiv_le ha hb (by decide)
  let y := 7 * at_ + 3 + x3
  let V := c + x2 * y
  refine ⟨Int.fmod V k, Int.fmod_nonneg_of_pos _ hk, Int.fmod_lt_of_pos _ hk, ?_⟩
  refine stepC_of (R := run (m + 19)) (b := [st .law_draw 0, st .law_draw 1, st .law_draw 2]) (v := .t (.int (Int.fmod V k))) (σ₁ := σ') (Γ₁ := Γ) (by kernel_rfl) (by kernel_rfl) rfl ?_
  refine x_next (Γ₁ := Γ) (σ₁ := σ) (s_un (x := Str.ofString "cells") (y := Str.ofString "at") (z := Str.ofString "tape") (Γ₁ := Γ0 ++ [(Str.ofString "cells", .t (intsT cells))]) (by kernel_rfl) (by kernel_rfl) h (by kernel_rfl) (by kernel_rfl)) ?_
  let s1 := st .law_draw 1
  let o1 := match s1 with
    | .Assign [.Subscript o k _] _ _ => (o, k)
    | _ => (noE, noE)
  refine x_next (Γ₁ := Γ) (σ₁ := σ') (s_item (o := o1.1) (k := o1.2) (e := exOf s1) (v := .t (.int (at_ + 1))) (σ₁ := σ) (σ₂ := σ) (n := 1) (kt := .int 1) (by kernel_rfl) (by kernel_rfl) (by kernel_rfl) (by kernel_rfl) rfl rfl h (by decide) (show (1 : Int) < 2 by decide) rfl) ?_
  refine x_ret (s_ret (e := dwE) (by kernel_rfl) ?_)
  let A := binOf dwE
  let A1 := binOf A.1
  let A2 := binOf A1.2
  let A3 := binOf A2.2
  have hlen : callBi .len [intsT cells] = some (.t (.int n)) := by
    unfold intsT
    rw [len_bi (by rw [List.length_map]; omega), List.length_map]
  have lenE : ∀ (j : Nat) (e : Expr) (_ : ∀ j, stepE (run (j + 1)) dwC Γ σ' e = calE (run (j + 1)) dwC Γ σ' (Str.ofString "len") (argsOf e)) (_ : ∀ j, evs (run (j + 1)) dwC Γ σ' (argsOf e) = some ([.t (intsT cells)], σ')), (run (j + 2)).e dwC Γ σ' e = some (.t (.int n), σ') := fun j e h1 h2 => by
    refine (e_run (j + 1) dwC Γ σ' e).trans ?_
    rw [h1]
    exact cal_len (by kernel_rfl) (h2 j) rfl hlen
  refine (e_run (m + 18) dwC Γ σ' dwE).trans ?_
  rw [show stepE (run (m + 18)) dwC Γ σ' dwE = binE (run (m + 18)) dwC Γ σ' A.1 .Mod A.2 from by kernel_rfl]
  refine bin_t (x := .int V) (y := .int k) (σ₁ := σ') ?_ (by kernel_rfl) ?_
  rotate_left
  · exact if_pos (by rw [decide_eq_false (by omega)]; rfl)
  refine (e_run (m + 17) dwC Γ σ' A.1).trans ?_
  rw [show stepE (run (m + 17)) dwC Γ σ' A.1 = binE (run (m + 17)) dwC Γ σ' A1.1 .Add A1.2 from by kernel_rfl]
  refine bin_t (x := .int c) (y := .int (x2 * y)) (σ₁ := σ') ?_ ?_ rfl
  · let B := subOf A1.1
    refine (e_run (m + 16) dwC Γ σ' A1.1).trans ?_
    rw [show stepE (run (m + 16)) dwC Γ σ' A1.1 = sbsE (run (m + 16)) dwC Γ σ' B.1 B.2 from by kernel_rfl]
    refine sbs_any (x := intsT cells) (k := .int x1) (by kernel_rfl) (by kernel_rfl) ?_ hcell
    refine (e_run (m + 15) dwC Γ σ' B.2).trans ?_
    rw [show stepE (run (m + 15)) dwC Γ σ' B.2 = binE (run (m + 15)) dwC Γ σ' (binOf B.2).1 .Mod (binOf B.2).2 from by kernel_rfl]
    refine bin_t (x := .int at_) (y := .int n) (σ₁ := σ') (by kernel_rfl) (lenE (m + 13) _ (fun _ => by kernel_rfl) (fun _ => by kernel_rfl)) ?_
    exact if_pos (by rw [decide_eq_false (by omega)]; rfl)
  · refine (e_run (m + 16) dwC Γ σ' A1.2).trans ?_
    rw [show stepE (run (m + 16)) dwC Γ σ' A1.2 = binE (run (m + 16)) dwC Γ σ' A2.1 .Mult A2.2 from by kernel_rfl]
    refine bin_t (x := .int x2) (y := .int y) (σ₁ := σ') ?_ ?_ ?_
    · refine (e_run (m + 15) dwC Γ σ' A2.1).trans ?_
      rw [show stepE (run (m + 15)) dwC Γ σ' A2.1 = binE (run (m + 15)) dwC Γ σ' (binOf A2.1).1 .FloorDiv (binOf A2.1).2 from by kernel_rfl]
      refine bin_t (x := .int at_) (y := .int n) (σ₁ := σ') (by kernel_rfl) (lenE (m + 13) _ (fun _ => by kernel_rfl) (fun _ => by kernel_rfl)) ?_
      exact if_pos (by rw [intOk_of (by omega) (by omega), intOk_of (by omega) (by omega), decide_eq_false (by omega)]; rfl)
    · refine (e_run (m + 15) dwC Γ σ' A2.2).trans ?_
      rw [show stepE (run (m + 15)) dwC Γ σ' A2.2 = binE (run (m + 15)) dwC Γ σ' A3.1 .Add A3.2 from by kernel_rfl]
      refine bin_t (x := .int (7 * at_ + 3)) (y := .int x3) (σ₁ := σ') ?_ ?_ rfl
      · let A4 := binOf A3.1
        refine (e_run (m + 14) dwC Γ σ' A3.1).trans ?_
        rw [show stepE (run (m + 14)) dwC Γ σ' A3.1 = binE (run (m + 14)) dwC Γ σ' A4.1 .Add A4.2 from by kernel_rfl]
        refine bin_t (x := .int (7 * at_)) (y := .int 3) (σ₁ := σ') ?_ (by kernel_rfl) rfl
        refine (e_run (m + 13) dwC Γ σ' A4.1).trans ?_
        rw [show stepE (run (m + 13)) dwC Γ σ' A4.1 = binE (run (m + 13)) dwC Γ σ' (binOf A4.1).1 .Mult (binOf A4.1).2 from by kernel_rfl]
        refine bin_t (x := .int 7) (y := .int at_) (σ₁ := σ') (by kernel_rfl) (by kernel_rfl) ?_
        exact if_pos (by rw [intOk_of (by omega) (by omega), intOk_of (by omega) (by omega)]; rfl)
      · refine (e_run (m + 14) dwC Γ σ' A3.2).trans ?_
        rw [show stepE (run (m + 14)) dwC Γ σ' A3.2 = binE (run (m + 14)) dwC Γ σ' (binOf A3.2).1 .FloorDiv (binOf A3.2).2 from by kernel_rfl]
        refine bin_t (x := .int at_) (y := .int 2) (σ₁ := σ') (by kernel_rfl) (by kernel_rfl) ?_
        exact if_pos (by rw [intOk_of (by omega) (by omega), intOk_of (by omega) (by omega)]; rfl)
    · have yb : y ≤ 9000 := by show 7 * at_ + 3 + x3 ≤ 9000; omega
      have ya : 0 ≤ y := by show 0 ≤ 7 * at_ + 3 + x3; omega
      exact if_pos (by rw [intOk_of (by omega) (by omega), intOk_of (by omega) (by omega)]; rfl)
end Mine
end
section
set_option maxRecDepth 100000
set_option autoImplicit false
namespace Mine
open PySem

set_option tactic.hygienic false in
theorem set_id {σ : Sg} {i : Nat} {o : OObj} (h : σ[i]? = some o) : σ.set i o = σ := by
  refine List.ext_getElem? fun j => ?_
  by_cases e : i = j
  · subst e; rw [get_self h, h]
  · rw [List.getElem?_set_ne e]
theorem subs_yes {a : Int} {w l : List Int} (h : w ∈ subs l) : a :: w ∈ subs (a :: l) := List.mem_append_left _ (List.mem_map_of_mem h)
theorem subs_no {a : Int} {w l : List Int} (h : w ∈ subs l) : w ∈ subs (a :: l) := List.mem_append_right _ h

/-! a comprehension that draws -/
noncomputable def cdG (tp : Nat) (n : Int) : Ga := [(Str.ofString "tape", .own tp), (Str.ofString "number", .t (.int n))]
noncomputable def cdJ (tp : Nat) (Γ : Ga) : Prop := Γ = [(Str.ofString "tape", .own tp)] ∨ ∃ v, Γ = [(Str.ofString "tape", .own tp), (Str.ofString "number", v)]
structure CD (m : Nat) (cx : Cx) (tg elt I : Expr) (k : Int) : Prop where
  bind : ∀ tp n Γ, cdJ tp Γ → bindT cx tg (.int n) Γ = some (cdG tp n)
  elt : ∀ tp n σ, (run (m + 30)).e cx (cdG tp n) σ elt = some (.t (.int n), σ)
  cmp : ∀ tp n σ, stepB (run (m + 29)) cx (cdG tp n) σ I = cmpB (run (m + 29)) cx (cdG tp n) σ (cmpOf I).1 [.Eq] [(cmpOf I).2]
  ns : notSet (cmpOf I).2 = true
  one : ∀ tp n σ, (run (m + 29)).e cx (cdG tp n) σ (cmpOf I).2 = some (.t (.int 1), σ)
  call : ∀ tp n σ, stepE (run (m + 28)) cx (cdG tp n) σ (cmpOf I).1 = calE (run (m + 28)) cx (cdG tp n) σ (Str.ofString "_law_draw") (argsOf (cmpOf I).1)
  name : ∀ tp n, nameV cx (cdG tp n) (Str.ofString "_law_draw") = some (.t (.fn .law_draw))
  args : ∀ tp n σ, evs (run (m + 28)) cx (cdG tp n) σ (argsOf (cmpOf I).1) = some ([.own tp, .t (.int k)], σ)
set_option tactic.hygienic false in
theorem comp_draw (m : Nat) {cx : Cx} {tg elt I : Expr} {k : Int} (H : CD m cx tg elt I k) (hk : 0 < k) {cells : List Int} (hc : 0 < cells.length) (hl : cells.length ≤ 100) {tp : Nat} :
    ∀ (l : List Int) (at_ : Int) (σ : Sg) (Γ : Ga), cdJ tp Γ → σ[tp]? = some (tapeO cells at_) → 0 ≤ at_ → at_ + l.length ≤ 1000 →
      ∃ w ∈ subs l, compL (run (m + 30)) cx tg elt [I] Γ σ (l.map .int) = some (w.map .int, σ.set tp (tapeO cells (at_ + l.length)))
  | [], at_, σ, Γ, _, h, _, _ => ⟨[], .head _, by
      show some (([] : List T), σ) = some ([], σ.set tp (tapeO cells (at_ + 0)))
      rw [Int.add_zero, set_id h]⟩
  | n :: l, at_, σ, Γ, hJ, h, ha, hb => by
    rw [List.length_cons] at hb ⊢
    obtain ⟨v, _, _, hd⟩ := draw_ok (m + 8) h hc hl ha (by omega) hk
    have hB : (run (m + 30)).b cx (cdG tp n) σ I = some (decide (v = 1), σ.set tp (tapeO cells (at_ + 1))) := by
      refine (b_run (m + 29) cx (cdG tp n) σ I).trans ?_
      rw [H.cmp]
      refine cmp_eq H.ns ?_ (H.one ..)
      refine (e_run (m + 28) cx (cdG tp n) σ (cmpOf I).1).trans ?_
      rw [H.call]
      exact cal_imp (H.name ..) rfl (H.args ..) hd
    obtain ⟨w, hw, ih⟩ := comp_draw m H hk hc hl (tp := tp) l (at_ + 1) (σ.set tp (tapeO cells (at_ + 1))) (cdG tp n) (.inr ⟨_, rfl⟩) (get_self h) (by omega) (by omega)
    rw [List.set_set, show at_ + 1 + (l.length : Int) = at_ + ((l.length + 1 : Nat) : Int) by omega] at ih
    rw [List.map_cons]
    by_cases e : v = 1
    · rw [decide_eq_true e] at hB
      refine ⟨n :: w, subs_yes hw, ?_⟩
      simp only [compL, H.bind tp n Γ hJ, andsB, hB, H.elt, frz, ih, List.map_cons]
    · rw [decide_eq_false e] at hB
      refine ⟨w, subs_no hw, ?_⟩
      simp only [compL, H.bind tp n Γ hJ, andsB, hB]
      exact ih

/-! the law's first lines -/
noncomputable abbrev lwC : Cx := ⟨FN.law.names⟩
noncomputable abbrev R0 (m : Nat) : Rec := run (m + 79)
noncomputable def lw3 : Stmt := nth (bodyOf (st .law 3)) 0
/-- the comprehension in a statement -/
noncomputable def lwL : Expr := exOf lw3
noncomputable def lwG : Expr × Expr × List Expr × Scope := genOf lwL
noncomputable def lwI : Expr := (lwG.2.2.1[0]?).getD noE
set_option tactic.hygienic false in
theorem cd_words (m : Nat) : CD (m + 47) ⟨lwG.2.2.2.names⟩ lwG.1 (eltOf lwL) lwI 3 where
  bind tp n Γ h := by rcases h with rfl | ⟨v, rfl⟩ <;> kernel_rfl
  elt tp n σ := by kernel_rfl
  cmp tp n σ := by kernel_rfl
  ns := by kernel_rfl
  one tp n σ := by kernel_rfl
  call tp n σ := by kernel_rfl
  name tp n := by kernel_rfl
  args tp n σ := by kernel_rfl
noncomputable def lw4L : Expr := exOf (st .law 4)
noncomputable def lw4G : Expr × Expr × List Expr × Scope := genOf lw4L
noncomputable def lw4I : Expr := (lw4G.2.2.1[0]?).getD noE
set_option tactic.hygienic false in
theorem cd_row (m : Nat) : CD (m + 49) ⟨lw4G.2.2.2.names⟩ lw4G.1 (eltOf lw4L) lw4I 2 where
  bind tp n Γ h := by rcases h with rfl | ⟨v, rfl⟩ <;> kernel_rfl
  elt tp n σ := by kernel_rfl
  cmp tp n σ := by kernel_rfl
  ns := by kernel_rfl
  one tp n σ := by kernel_rfl
  call tp n σ := by kernel_rfl
  name tp n := by kernel_rfl
  args tp n σ := by kernel_rfl

noncomputable def bigOf : Expr → List Expr
  | .BoolOp _ es _ => es
  | _ => []
/-  the tape is made -/
set_option tactic.hygienic false in
theorem law0 (m : Nat) (xs : List Int) (hi : xs.length ≤ 63) : ∃ (σ : Sg) (cells : List Int), 0 < cells.length ∧ cells.length ≤ 100 ∧
    stepS (R0 m) lwC [(Str.ofString "script", .t (intsT xs))] [] (st .law 0) = some (.next, [(Str.ofString "script", .t (intsT xs)), (Str.ofString "tape", .own σ.length)], σ ++ [tapeO cells 0]) := by
  let Γ : Ga := [(Str.ofString "script", .t (intsT xs))]
  let E := exOf (st .law 0)
  let O := arg E 0
  let a := (bigOf O)[0]?.getD noE
  let b := (bigOf O)[1]?.getD noE
  let sl := subOf (arg a 0)
  let u := match sl.2 with
    | .Slice _ (some u) _ _ => u
    | _ => noE
  let L := xs.take 40
  have hL : L.length ≤ 40 := List.length_take_le ..
  have eL : (xs.map T.int).take 40 = L.map T.int := (List.map_take ..).symm
  have zL : sizeOk (L.map T.int).length = true := sizeOk_of (by rw [List.length_map]; omega)
  let σ1 : Sg := [.frz (intsT L), .list (L.map .int)]
  have ha : (run (m + 77)).e lwC Γ [] a = some (.own 1, σ1) := by
    refine (e_run (m + 76) lwC Γ [] a).trans ?_
    rw [show stepE (run (m + 76)) lwC Γ [] a = calE (run (m + 76)) lwC Γ [] (Str.ofString "list") [arg a 0] from by kernel_rfl]
    refine cal_any (f := .bi .list) (as := [.own 0]) (σ₁ := [.list (L.map .int)]) (by kernel_rfl) (evs_cons (by kernel_rfl) ?_ rfl) ?_
    · refine (e_run (m + 75) lwC Γ [] (arg a 0)).trans ?_
      rw [show stepE (run (m + 75)) lwC Γ [] (arg a 0) = sliE (run (m + 75)) lwC Γ [] sl.1 u from by kernel_rfl]
      rw [← eL]
      exact sli_ok (σ₁ := []) (σ₂ := []) (n := 40) (v := .t (intsT xs)) (by kernel_rfl) (by kernel_rfl) rfl (by decide) (by decide) (sizeOk_of (by rw [List.length_map]; omega))
    · exact bis_new (σ := [.list (L.map .int)]) (σ₁ := [.frz (.list (L.map .int))]) (as := [.own 0]) (ts := [.list (L.map .int)]) rfl rfl (list_bi (by rw [List.length_map]; omega))
  have fin : ∀ (i : Nat) (σ₂ σ₃ : Sg) (cells : List Int), (run (m + 78)).e lwC Γ [] O = some (.own i, σ₂) → frz σ₂ (.own i) = some (intsT cells, σ₃) →
      stepS (R0 m) lwC Γ [] (st .law 0) = some (.next, [(Str.ofString "script", .t (intsT xs)), (Str.ofString "tape", .own σ₃.length)], σ₃ ++ [tapeO cells 0]) := by
    intro i σ₂ σ₃ cells h1 h2
    refine s_asg (x := Str.ofString "tape") (e := E) (v := .own σ₃.length) (by kernel_rfl) (by kernel_rfl) ?_ (by kernel_rfl)
    refine (e_run (m + 78) lwC Γ [] E).trans ?_
    rw [show stepE (run (m + 78)) lwC Γ [] E = listE (run (m + 78)) lwC Γ [] [O, arg E 1] from by kernel_rfl]
    have e1 : evs (run (m + 78)) lwC Γ [] [O, arg E 1] = some ([.own i, .t (.int 0)], σ₂) := evs_cons (by kernel_rfl) (by
      refine (e_run (m + 77) lwC Γ [] O).trans ?_
      exact h1) (evs_cons (by kernel_rfl) (by kernel_rfl) rfl)
    have e2 : frzs σ₂ [.own i, .t (.int 0)] = some ([intsT cells, .int 0], σ₃) := by
      unfold frzs
      rw [h2]
      rfl
    simp only [listE, evsT, e1, e2]
    rfl
  induction xs using List.casesOn with
  | nil => exact ⟨_, [3], by decide, by decide, fin 2 [.frz (.list []), .list [], .list [.int 3]] [.frz (.list []), .list [], .frz (.list [.int 3])] [3] (by kernel_rfl) rfl⟩
  | cons x r =>
    have hL0 : 0 < L.length := by show 0 < ((x :: r).take 40).length; rw [List.length_take, List.length_cons]; omega
    refine ⟨_, L, hL0, by omega, fin 1 σ1 [.frz (intsT L), .frz (intsT L)] L ?_ rfl⟩
    refine (e_run (m + 77) lwC Γ [] O).trans ?_
    rw [show stepE (run (m + 77)) lwC Γ [] O = boolV (run (m + 77)) lwC Γ .Or [] [a, b] from by kernel_rfl]
    have tr : truthyT (.list (L.map .int)) = some true := by
      simp only [truthyT, zL]
      cases hh : L with
      | nil => rw [hh] at hL0; cases hL0
      | cons _ _ => rfl
    have lk : look σ1 (.own 1) = some (.list (L.map .int)) := rfl
    simp only [boolV, ha, lk, Option.bind_some, tr]
end Mine
end
section
set_option maxRecDepth 100000
set_option autoImplicit false
namespace Mine
open PySem

noncomputable def nm (x : String) : Str := Str.ofString x
noncomputable def l3O : OObj := .list [.int 10, .int 11, .int 12]
noncomputable def G1 (xs : List Int) (tp : Nat) : Ga := [(nm "script", .t (intsT xs)), (nm "tape", .own tp)]
noncomputable def G2 (xs : List Int) (tp li : Nat) : Ga := G1 xs tp ++ [(nm "listed", .own li)]
noncomputable def G3 (xs : List Int) (tp li so : Nat) : Ga := G2 xs tp li ++ [(nm "some", .own so)]

section
variable (m : Nat) {xs cells : List Int} (hc : 0 < cells.length) (hl : cells.length ≤ 100)
include hc hl
set_option tactic.hygienic false in
theorem law1 (P : Sg) : ∃ L, Lst L ∧ stepS (R0 m) lwC (G1 xs P.length) (P ++ [tapeO cells 0]) (st .law 1) = some (.next, G2 xs P.length (P.length + 2), P ++ [tapeO cells 1, l3O, .list (L.map .int)]) := by
  let E := exOf (st .law 1)
  let o := (subOf E).1
  let u := match (subOf E).2 with
    | .Slice _ (some u) _ _ => u
    | _ => noE
  have key : ∀ (tp : Nat) (σ : Sg) (_ : σ[tp]? = some (tapeO cells 0)), ∃ L, Lst L ∧ stepS (R0 m) lwC (G1 xs tp) σ (st .law 1) = some (.next, G2 xs tp (σ.length + 1), (σ.set tp (tapeO cells 1)) ++ [l3O, .list (L.map .int)]) := by
    intro tp σ h
    obtain ⟨v, v0, v4, hd⟩ := draw_ok (m + 57) (σ := σ ++ [l3O]) (k := 4) (get_app h) hc hl (by decide) (by decide) (by decide)
    have hlt := get_lt h
    rw [List.set_append_left _ _ hlt] at hd
    let σ1 := σ.set tp (tapeO cells (0 + 1)) ++ [l3O]
    have elen : σ1.length = σ.length + 1 := by show (σ.set tp (tapeO cells (0 + 1)) ++ [l3O]).length = _; rw [List.length_append, List.length_set]; rfl
    have hlook : look σ1 (.own σ.length) = some (.list [.int 10, .int 11, .int 12]) := by
      have e : σ1[σ.length]? = some l3O := by
        have := get_new (σ := σ.set tp (tapeO cells (0 + 1))) (o := l3O)
        rw [List.length_set] at this
        exact this
      show frzL σ1 σ.length = _
      unfold frzL
      rw [e]; rfl
    have hu : (run (m + 78)).e lwC (G1 xs tp) (σ ++ [l3O]) u = some (.t (.int v), σ1) := by
      refine (e_run (m + 77) lwC (G1 xs tp) (σ ++ [l3O]) u).trans ?_
      rw [show ∀ σ, stepE (run (m + 77)) lwC (G1 xs tp) σ u = calE (run (m + 77)) lwC (G1 xs tp) σ (nm "_law_draw") (argsOf u) from fun _ => by kernel_rfl]
      exact cal_imp (f := .law_draw) (as := [.own tp, .t (.int 4)]) (σ₁ := σ ++ [l3O]) (by kernel_rfl) rfl (by kernel_rfl) hd
    have hE : (run (m + 79)).e lwC (G1 xs tp) σ E = some (.own (σ.length + 1), σ1 ++ [.list (List.take v.toNat [.int 10, .int 11, .int 12])]) := by
      refine (e_run (m + 78) lwC (G1 xs tp) σ E).trans ?_
      rw [show stepE (run (m + 78)) lwC (G1 xs tp) σ E = sliE (run (m + 78)) lwC (G1 xs tp) σ o u from by kernel_rfl, ← elen]
      exact sli_ok (v := .own σ.length) (σ₁ := σ ++ [l3O]) (by kernel_rfl) hu hlook v0 (by omega) rfl
    have fin : ∀ L : List Int, List.take v.toNat [T.int 10, .int 11, .int 12] = L.map .int → stepS (R0 m) lwC (G1 xs tp) σ (st .law 1) = some (.next, G2 xs tp (σ.length + 1), (σ.set tp (tapeO cells 1)) ++ [l3O, .list (L.map .int)]) := by
      intro L e
      rw [e] at hE
      refine s_asg (x := nm "listed") (e := E) (v := .own (σ.length + 1)) (by kernel_rfl) (by kernel_rfl) ?_ (by kernel_rfl)
      rw [hE]
      show some (AV.own (σ.length + 1), σ.set tp (tapeO cells (0 + 1)) ++ [l3O] ++ [OObj.list (L.map .int)]) = _
      rw [List.append_assoc]; rfl
    have hv : v = 0 ∨ v = 1 ∨ v = 2 ∨ v = 3 := by omega
    rcases hv with rfl | rfl | rfl | rfl
    · exact ⟨[], .l0, fin _ rfl⟩
    · exact ⟨[10], .l1, fin _ rfl⟩
    · exact ⟨[10, 11], .l2, fin _ rfl⟩
    · exact ⟨[10, 11, 12], .l3, fin _ rfl⟩
  obtain ⟨L, hL, e⟩ := key P.length (P ++ [tapeO cells 0]) (by have := get_new (σ := P) (o := tapeO cells 0); exact this)
  have es : (P ++ [tapeO cells 0]).set P.length (tapeO cells 1) = P ++ [tapeO cells 1] := set_new
  rw [es, List.append_assoc, List.length_append] at e
  exact ⟨L, hL, e⟩

/-  a word's list -/
set_option tactic.hygienic false in
theorem word_ok {tp li so : Nat} {W : Str} {Γ : Ga} (hΓ : Γ = G3 xs tp li so ++ [(nm "word", .t (.str W))]) {at_ : Int} (ha : 0 ≤ at_) (hb : at_ ≤ 100) {σ : Sg} {ks ks' : List Key} {ts : List T} (h : σ[tp]? = some (tapeO cells at_)) (hs : σ[so]? = some (.dict ks ts)) :
    ∃ w ∈ ws, ∀ ts', putD (.s W) (intsT w) ks ts = some (ks', ts') → (R0 m).x lwC Γ σ (bodyOf (st .law 3)) = some (.next, Γ, (σ.set tp (tapeO cells (at_ + 4)) ++ [OObj.frz (intsT w)]).set so (.dict ks' ts')) := by
  subst hΓ
  let Γ := G3 xs tp li so ++ [(nm "word", .t (.str W))]
  obtain ⟨w, hw, hcomp⟩ := comp_draw (m + 47) (cd_words m) (by decide) hc hl (tp := tp) [10, 11, 12, 13] at_ σ [(Str.ofString "tape", .own tp)] (.inl rfl) h ha (by simp only [List.length_cons, List.length_nil]; omega)
  refine ⟨w, hw, fun ts' hp => ?_⟩
  have hne : so ≠ tp := by
    intro e; subst e; rw [h] at hs; cases hs
  let σ1 := σ.set tp (tapeO cells (at_ + 4))
  have hg : σ1[so]? = some (.dict ks ts) := get_other hs hne
  refine (x_run (m + 78) lwC Γ σ (bodyOf (st .law 3))).trans ?_
  rw [show bodyOf (st .law 3) = [lw3] from by kernel_rfl]
  let o := match lw3 with
    | .Assign [.Subscript o k _] _ _ => (o, k)
    | _ => (noE, noE)
  refine x_next (s_key (o := o.1) (k := o.2) (e := lwL) (v := .own σ1.length) (i := so) (kt := .str W) (q := .s W) (t := intsT w) (σ₁ := σ1 ++ [OObj.list (w.map .int)]) (σ₂ := σ1 ++ [OObj.frz (intsT w)]) (by kernel_rfl) ?_ (by kernel_rfl) (by kernel_rfl) rfl ?_ (get_app hg) hp) rfl
  · refine (e_run (m + 77) lwC Γ σ lwL).trans ?_
    rw [show stepE (run (m + 77)) lwC Γ σ lwL = lcE (run (m + 77)) lwC Γ σ (eltOf lwL) lwG.1 lwG.2.1 lwG.2.2.1 lwG.2.2.2 from by kernel_rfl]
    refine lc_e (comp_e (vs := [10, 11, 12, 13].map T.int) (σ₁ := σ) (by kernel_rfl) (by kernel_rfl) (by kernel_rfl) ?_)
    rw [show freeOf lwG.2.2.2.names Γ = [(Str.ofString "tape", .own tp)] from by kernel_rfl, show lwG.2.2.1 = [lwI] from by kernel_rfl]
    exact hcomp
  · unfold frz frzV1 frzL
    have e : (σ1 ++ [OObj.list (w.map .int)])[σ1.length]? = some (.list (w.map .int)) := get_new
    simp only [e, set_new]
    rfl
end
end Mine
end
section
set_option maxRecDepth 100000
set_option autoImplicit false
namespace Mine
open PySem

set_option tactic.hygienic false in
theorem pget {P τ : Sg} {k : Nat} {o : OObj} (h : τ[k]? = some o) : (P ++ τ)[P.length + k]? = some o := by rw [List.getElem?_append_right (Nat.le_add_right ..), Nat.add_sub_cancel_left]; exact h
set_option tactic.hygienic false in
theorem pset (P τ : Sg) (k : Nat) (o : OObj) : (P ++ τ).set (P.length + k) o = P ++ τ.set k o := by
  induction P with
  | nil => simp
  | cons a r ih => rw [List.cons_append, List.length_cons, show r.length + 1 + k = (r.length + k) + 1 by omega, List.set_cons_succ, ih]; rfl
theorem pget0 {P τ : Sg} {o : OObj} (h : τ[0]? = some o) : (P ++ τ)[P.length]? = some o := pget (k := 0) h
theorem pset0 (P τ : Sg) (o : OObj) : (P ++ τ).set P.length o = P ++ τ.set 0 o := pset P τ 0 o

noncomputable def wON : Str := nm "ON"
noncomputable def wOFF : Str := nm "OFF"
noncomputable def wLK : Str := nm "Locked"
noncomputable def wOR : Str := nm "Order"
noncomputable def kW : List Key := [.s wON, .s wOFF, .s wLK, .s wOR]
set_option tactic.hygienic false in
theorem lrow_of {L row : List Int} (hL : Lst L) (h : row ∈ subs L) : LRow L row := by
  cases hL <;> simp only [subs, List.map_cons, List.map_nil, List.cons_append, List.nil_append, List.mem_cons, List.not_mem_nil, or_false] at h
  · subst h; constructor
  · rcases h with rfl | rfl <;> constructor
  · rcases h with rfl | rfl | rfl | rfl <;> constructor
  · rcases h with rfl | rfl | rfl | rfl | rfl | rfl | rfl | rfl <;> constructor
section
variable (m : Nat) {xs cells : List Int} (hc : 0 < cells.length) (hl : cells.length ≤ 100)
include hc hl
set_option tactic.hygienic false in
theorem word_step (P F : Sg) (lo : OObj) (W : Str) (at_ at' : Int) (ha : 0 ≤ at_) (hb : at_ ≤ 100) (he : at_ + 4 = at') (ks ks' : List Key) (ts : List T) : ∃ w ∈ ws, ∀ ts', putD (.s W) (intsT w) ks ts = some (ks', ts') →
    (R0 m).x lwC (G3 xs P.length (P.length + 2) (P.length + 3) ++ [(nm "word", .t (.str W))]) (P ++ (tapeO cells at_ :: l3O :: lo :: .dict ks ts :: F)) (bodyOf (st .law 3)) =
      some (.next, G3 xs P.length (P.length + 2) (P.length + 3) ++ [(nm "word", .t (.str W))], P ++ (tapeO cells at' :: l3O :: lo :: .dict ks' ts' :: (F ++ [.frz (intsT w)]))) := by
  subst he
  have g0 : (P ++ (tapeO cells at_ :: l3O :: lo :: .dict ks ts :: F))[P.length]? = some (tapeO cells at_) := pget0 rfl
  have g3 : (P ++ (tapeO cells at_ :: l3O :: lo :: .dict ks ts :: F))[P.length + 3]? = some (.dict ks ts) := pget (k := 3) rfl
  obtain ⟨w, h, e⟩ := word_ok (xs := xs) (li := P.length + 2) m hc hl (W := W) rfl ha hb (ks' := ks') g0 g3
  refine ⟨w, h, fun ts' hp => ?_⟩
  have e := e ts' hp
  rw [pset0, List.append_assoc, pset] at e
  exact e
set_option tactic.hygienic false in
theorem law3 (P : Sg) (lo : OObj) : ∃ w1 w2 w3 w4, w1 ∈ ws ∧ w2 ∈ ws ∧ w3 ∈ ws ∧ w4 ∈ ws ∧ stepS (R0 m) lwC (G3 xs P.length (P.length + 2) (P.length + 3)) (P ++ [tapeO cells 1, l3O, lo, .dict [] []]) (st .law 3) =
    some (.next, G3 xs P.length (P.length + 2) (P.length + 3), P ++ [tapeO cells 17, l3O, lo, .dict kW [intsT w1, intsT w2, intsT w3, intsT w4], .frz (intsT w1), .frz (intsT w2), .frz (intsT w3), .frz (intsT w4)]) := by
  obtain ⟨w1, h1, e1⟩ := word_step (xs := xs) m hc hl P [] lo wON 1 5 (by decide) (by decide) rfl [] [.s wON] []
  obtain ⟨w2, h2, e2⟩ := word_step (xs := xs) m hc hl P [.frz (intsT w1)] lo wOFF 5 9 (by decide) (by decide) rfl [.s wON] [.s wON, .s wOFF] [intsT w1]
  obtain ⟨w3, h3, e3⟩ := word_step (xs := xs) m hc hl P [.frz (intsT w1), .frz (intsT w2)] lo wLK 9 13 (by decide) (by decide) rfl [.s wON, .s wOFF] [.s wON, .s wOFF, .s wLK] [intsT w1, intsT w2]
  obtain ⟨w4, h4, e4⟩ := word_step (xs := xs) m hc hl P [.frz (intsT w1), .frz (intsT w2), .frz (intsT w3)] lo wOR 13 17 (by decide) (by decide) rfl [.s wON, .s wOFF, .s wLK] kW [intsT w1, intsT w2, intsT w3]
  refine ⟨w1, w2, w3, w4, h1, h2, h3, h4, ?_⟩
  refine s_for (tg := tgOf (st .law 3)) (it := exOf (st .law 3)) (body := bodyOf (st .law 3)) (vs := [.str wON, .str wOFF, .str wLK, .str wOR]) (σ₁ := P ++ [tapeO cells 1, l3O, lo, .dict [] []]) (by kernel_rfl) (by kernel_rfl) ?_
  refine for_cons (by kernel_rfl) (e1 [intsT w1] (by kernel_rfl)) ?_
  refine for_cons (by kernel_rfl) (e2 [intsT w1, intsT w2] (by kernel_rfl)) ?_
  refine for_cons (by kernel_rfl) (e3 [intsT w1, intsT w2, intsT w3] (by kernel_rfl)) ?_
  refine for_cons (by kernel_rfl) (e4 [intsT w1, intsT w2, intsT w3, intsT w4] (by kernel_rfl)) ?_
  exact for_nil.trans (by kernel_rfl)

noncomputable def G4 (xs : List Int) (tp li so ro : Nat) : Ga := G3 xs tp li so ++ [(nm "row", .own ro)]
set_option tactic.hygienic false in
theorem law4 (P : Sg) {L : List Int} (hL : Lst L) (D a b c d : OObj) : ∃ row, LRow L row ∧ stepS (R0 m) lwC (G3 xs P.length (P.length + 2) (P.length + 3)) (P ++ [tapeO cells 17, l3O, .list (L.map .int), D, a, b, c, d]) (st .law 4) =
    some (.next, G4 xs P.length (P.length + 2) (P.length + 3) (P.length + 8), P ++ [tapeO cells (17 + L.length), l3O, .frz (intsT L), D, a, b, c, d, .list (row.map .int)]) := by
  let Γ := G3 xs P.length (P.length + 2) (P.length + 3)
  let σ := P ++ [tapeO cells 17, l3O, .frz (intsT L), D, a, b, c, d]
  have hLl : L.length ≤ 3 := by cases hL <;> decide
  obtain ⟨row, hw, hcomp⟩ := comp_draw (m + 49) (cd_row m) (by decide) hc hl (tp := P.length) L 17 σ [(Str.ofString "tape", .own P.length)] (.inl rfl) (pget0 rfl) (by decide) (by omega)
  rw [pset0] at hcomp
  refine ⟨row, lrow_of hL hw, ?_⟩
  have e := s_asgC (R := R0 m) (cx := lwC) (Γ := Γ) (Γ' := G4 xs P.length (P.length + 2) (P.length + 3) (P.length + 8)) (σ := P ++ [tapeO cells 17, l3O, .list (L.map .int), D, a, b, c, d]) (σ₁ := P ++ [tapeO cells (17 + L.length), l3O, .frz (intsT L), D, a, b, c, d]) (ts := row.map .int) (s := st .law 4) (x := nm "row") (elt := eltOf lw4L) (tg := lw4G.1) (it := lw4G.2.1) (ifs := lw4G.2.2.1) (sc := lw4G.2.2.2) (by kernel_rfl) ?_ ?_
  · rw [e, List.append_assoc]; rfl
  · refine comp_e (vs := L.map .int) (σ₁ := σ) (by kernel_rfl) ?_ (Nat.ble_eq_true_of_le (by rw [List.length_map]; omega)) ?_
    · refine src_call (v := .own (P.length + 2)) (t := intsT L) (σ₁ := P ++ [tapeO cells 17, l3O, .list (L.map .int), D, a, b, c, d]) (by kernel_rfl) (by kernel_rfl) ?_ rfl
      have g : (P ++ [tapeO cells 17, l3O, .list (L.map .int), D, a, b, c, d])[P.length + 2]? = some (.list (L.map .int)) := pget (k := 2) rfl
      simp only [frz, g, frzV1, frzL, pset]
      rfl
    · rw [show freeOf lw4G.2.2.2.names Γ = [(Str.ofString "tape", .own P.length)] from by kernel_rfl, show lw4G.2.2.1 = [lw4I] from by kernel_rfl]
      exact hcomp
  · rw [List.length_append]
    kernel_rfl
end
end Mine
end
section
set_option maxRecDepth 100000
set_option autoImplicit false
namespace Mine
open PySem

section
variable {R : Rec} {cx : Cx} {Γ Γ' Γ₁ : Ga} {σ σ₁ σ₂ σ₃ : Sg}
set_option tactic.hygienic false in
theorem sbs_look {o i : Expr} {v : AV} {x k t : T} (h0 : notSlice i = true) (h1 : R.e cx Γ σ o = some (v, σ)) (h2 : R.e cx Γ σ i = some (.t k, σ)) (hl : look σ v = some x) (h3 : itemT x k = some t) : sbsE R cx Γ σ o i = some (.t t, σ) := by
  simp only [sbsE, h0, h1, h2, hl, h3, Option.map_some]
set_option tactic.hygienic false in
theorem cal_new {x : Str} {args : List Expr} {b : BI} {as : List AV} {ts : List T} {o : OObj} (h1 : nameV cx Γ x = some (.t (.bi b))) (hb : b ≠ .len) (h2 : evs R cx Γ σ args = some (as, σ₁)) (h3 : frzs σ₁ as = some (ts, σ₂)) (h4 : callBi b ts = some (.new o)) :
    calE R cx Γ σ x args = some (.own σ₂.length, σ₂ ++ [o]) := by
  cases b <;> first | exact absurd rfl hb | simp only [calE, h1, h2, callV, isLen, bisV, h3, h4, Option.map_some, ansV]
set_option tactic.hygienic false in
theorem dictE_cons {k v : Expr} {ks : List (Option Expr)} {vs : List Expr} {kt t : T} {key : Key} {a : AV} {l : List (Key × T)} (h1 : R.e cx Γ σ k = some (.t kt, σ)) (hk : keyOf kt = some key) (h2 : R.e cx Γ σ v = some (a, σ₁)) (h3 : frz σ₁ a = some (t, σ₂)) (h4 : dictE R cx Γ σ₂ ks vs = some (l, σ₃)) :
    dictE R cx Γ σ (some k :: ks) (v :: vs) = some ((key, t) :: l, σ₃) := by
  rw [dictE_one]
  rw [h1]
  dsimp only
  rw [hk]
  dsimp only
  rw [h2]
  dsimp only
  rw [h3]
  dsimp only
  rw [h4]
set_option tactic.hygienic false in
theorem dct_of {ks : List (Option Expr)} {vs : List Expr} {l : List (Key × T)} {ks' : List Key} {ts' : List T} (hb : Nat.ble ks.length 15 = true) (h : dictE R cx Γ σ ks vs = some (l, σ₁)) (hd : dictOfPairs l ([], []) = some (ks', ts')) : dctE R cx Γ σ ks vs = some (.own σ₁.length, σ₁ ++ [.dict ks' ts']) := by
  simp only [dctE, hb, h, hd]
set_option tactic.hygienic false in
theorem cls_new {x : Str} {args : List Expr} {c : CN} {f : FN} {as : List AV} (h1 : nameV cx Γ x = some (.t (.cls c))) (hf : c.init = some f) (h2 : evs R cx Γ σ args = some (as, σ₁)) (h3 : R.c f (.own σ₁.length :: as) (σ₁ ++ [.inst c [] []]) = some (.t .none, σ₂)) :
    calE R cx Γ σ x args = some (.own σ₁.length, σ₂) := by
  simp only [calE, h1, h2, callV, clsV, hf, h3, isNoneA]
set_option tactic.hygienic false in
theorem list_of {es : List Expr} {vs : List AV} {ts : List T} (h1 : evs R cx Γ σ es = some (vs, σ₁)) (h2 : frzs σ₁ vs = some (ts, σ₂)) (hz : sizeOk ts.length = true) : listE R cx Γ σ es = some (.own σ₂.length, σ₂ ++ [.list ts]) := by
  simp only [listE, evsT, h1, h2, hz, if_true]
set_option tactic.hygienic false in
theorem s_attr {s : Stmt} {o e : Expr} {n : Str} {v : AV} {i : Nat} {c : CN} {ns ns' : List Str} {vs vs' : List AV} (h : stepS R cx Γ σ s = asgAS R cx Γ σ o n e) (h1 : R.e cx Γ σ e = some (v, σ)) (h2 : R.e cx Γ σ o = some (.own i, σ)) (h3 : σ[i]? = some (.inst c ns vs)) (hm : (memS n c.flds && sizeOk ns.length) = true) (hp : putN n v ns vs = (ns', vs')) :
    stepS R cx Γ σ s = some (.next, Γ, σ.set i (.inst c ns' vs')) := by
  rw [h]; simp only [asgAS, h1, h2, h3, hm, hp]
theorem frzVs_t : ∀ (ts : List T) (σ : Sg), frzVs σ (ts.map .t) = some (ts, σ)
  | [], _ => rfl
  | t :: r, σ => by
    rw [List.map_cons]
    simp only [frzVs, frzV1, frzVs_t r]
set_option tactic.hygienic false in
theorem frz_inst {c : CN} {ns : List Str} (ts : List T) : frz (σ ++ [.inst c ns (ts.map .t)]) (.own σ.length) = some (.inst c ns ts, σ ++ [.frz (.inst c ns ts)]) := by
  have g : (σ ++ [OObj.inst c ns (ts.map .t)])[σ.length]? = some (.inst c ns (ts.map .t)) := get_new
  simp only [frz, g, frzVs_t, set_new]
set_option tactic.hygienic false in
theorem frz_list (ts : List T) : frz (σ ++ [.list ts]) (.own σ.length) = some (.list ts, σ ++ [.frz (.list ts)]) := by
  have g : (σ ++ [OObj.list ts])[σ.length]? = some (.list ts) := get_new
  simp only [frz, g, frzV1, frzL, set_new]
set_option tactic.hygienic false in
theorem frz_dict (ks : List Key) (ts : List T) : frz (σ ++ [.dict ks ts]) (.own σ.length) = some (.dict ks ts, σ ++ [.frz (.dict ks ts)]) := by
  have g : (σ ++ [OObj.dict ks ts])[σ.length]? = some (.dict ks ts) := get_new
  simp only [frz, g, frzV1, frzL, set_new]
theorem frz_at {i : Nat} {t : T} (h : frzL σ i = some t) : frz σ (.own i) = some (t, σ.set i (.frz t)) := by
  have h' := h
  unfold frzL at h'
  have e : frzV1 σ (.own i) = some (t, σ.set i (.frz t)) := by simp only [frzV1, h]
  unfold frz
  split at h' <;> rename_i g <;> first | cases h' | skip
  all_goals (simp only [g]; exact e)
set_option tactic.hygienic false in
theorem frzs_one {v : AV} {t : T} (h : frz σ v = some (t, σ₁)) : frzs σ [v] = some ([t], σ₁) := by simp only [frzs, h]
set_option tactic.hygienic false in
theorem frzL_list {i : Nat} {ts : List T} (h : σ[i]? = some (.list ts)) : frzL σ i = some (.list ts) := by unfold frzL; rw [h]
set_option tactic.hygienic false in
theorem frzL_dict {i : Nat} {ks : List Key} {ts : List T} (h : σ[i]? = some (.dict ks ts)) : frzL σ i = some (.dict ks ts) := by unfold frzL; rw [h]
set_option tactic.hygienic false in
theorem frzL_frz {i : Nat} {t : T} (h : σ[i]? = some (.frz t)) : frzL σ i = some t := by unfold frzL; rw [h]
end

set_option tactic.hygienic false in
theorem name_init (m : Nat) (σ : Sg) (x : Str) : (run (m + 10)).c .nameInit [.own σ.length, .t (.str x)] (σ ++ [.inst .Name [] []]) = some (.t .none, σ ++ [.inst .Name [nm "text"] ([.str x].map .t)]) := by
  let Γ : Ga := [(nm "self", .own σ.length), (nm "text", .t (.str x))]
  let s := st .nameInit 0
  let o := match s with
    | .Assign [.Attribute o _ _] _ _ => o
    | _ => noE
  refine stepC_none (R := run (m + 9)) (b := [s]) (Γ₁ := Γ) (by kernel_rfl) (by kernel_rfl) rfl ?_
  have e := s_attr (R := run (m + 9)) (cx := ⟨FN.nameInit.names⟩) (Γ := Γ) (σ := σ ++ [.inst .Name [] []]) (s := s) (o := o) (e := exOf s) (n := nm "text") (v := .t (.str x)) (i := σ.length) (ns' := [nm "text"]) (vs' := [.t (.str x)]) (by kernel_rfl) (by kernel_rfl) (by kernel_rfl) get_new (by kernel_rfl) (by kernel_rfl)
  rw [set_new] at e
  exact x_next e rfl
set_option tactic.hygienic false in
theorem str_init (m : Nat) (σ : Sg) (b : List UInt8) : (run (m + 10)).c .stringInit [.own σ.length, .t (.bytes b)] (σ ++ [.inst .String [] []]) = some (.t .none, σ ++ [.inst .String [nm "octets", nm "is_hex"] ([.bytes b, .bool false].map .t)]) := by
  let Γ : Ga := [(nm "self", .own σ.length), (nm "octets", .t (.bytes b)), (nm "is_hex", .t (.bool false))]
  let s := st .stringInit 0
  let s1 := st .stringInit 1
  let o (s : Stmt) := match s with
    | .Assign [.Attribute o _ _] _ _ => o
    | _ => noE
  refine stepC_none (R := run (m + 9)) (b := [s, s1]) (Γ₁ := Γ) (by kernel_rfl) (by kernel_rfl) rfl ?_
  have e := s_attr (R := run (m + 9)) (cx := ⟨FN.stringInit.names⟩) (Γ := Γ) (σ := σ ++ [.inst .String [] []]) (s := s) (o := o s) (e := exOf s) (n := nm "octets") (v := .t (.bytes b)) (i := σ.length) (ns' := [nm "octets"]) (vs' := [.t (.bytes b)]) (by kernel_rfl) (by kernel_rfl) (by kernel_rfl) get_new (by kernel_rfl) (by kernel_rfl)
  have e1 := s_attr (R := run (m + 9)) (cx := ⟨FN.stringInit.names⟩) (Γ := Γ) (σ := σ ++ [.inst .String [nm "octets"] [.t (.bytes b)]]) (s := s1) (o := o s1) (e := exOf s1) (n := nm "is_hex") (v := .t (.bool false)) (i := σ.length) (ns' := [nm "octets", nm "is_hex"]) (vs' := [.t (.bytes b), .t (.bool false)]) (by kernel_rfl) (by kernel_rfl) (by kernel_rfl) get_new (by kernel_rfl) (by kernel_rfl)
  rw [set_new] at e e1
  exact x_next e (x_next e1 rfl)

/-! first = dict(..) -/
noncomputable def lw5L : Expr := arg (exOf (st .law 5)) 0
noncomputable def lw5G : Expr × Expr × List Expr × Scope := genOf lw5L
noncomputable abbrev lw5C : Cx := ⟨lw5G.2.2.2.names⟩
set_option tactic.hygienic false in
theorem turn5 (m : Nat) {σ : Sg} {so : Nat} {vs : List T} (W : Str) {w : List Int} (h : frzL σ so = some (.dict kW vs)) (hi : itemT (.dict kW vs) (.str W) = some (intsT w)) (hw : w ∈ ws) :
    (run (m + 77)).e lw5C [(nm "some", .own so), (nm "word", .t (.str W))] σ (eltOf lw5L) = some (.t (.tup [.str W, refsT w]), σ) := by
  let Γ : Ga := [(nm "some", .own so), (nm "word", .t (.str W))]
  let E := eltOf lw5L
  refine (e_run (m + 76) lw5C Γ σ E).trans ?_
  rw [show ∀ σ, stepE (run (m + 76)) lw5C Γ σ E = tupE (run (m + 76)) lw5C Γ σ [arg E 0, arg E 1] from fun _ => by kernel_rfl]
  refine tup_of (vs := [.t (.str W), .t (refsT w)]) (σ₁ := σ) (evs_cons (σ₁ := σ) (by kernel_rfl) (by kernel_rfl) (evs_cons (σ₁ := σ) (by kernel_rfl) ?_ rfl)) rfl rfl
  refine (e_run (m + 75) lw5C Γ σ (arg E 1)).trans ?_
  rw [show ∀ σ, stepE (run (m + 75)) lw5C Γ σ (arg E 1) = calE (run (m + 75)) lw5C Γ σ (nm "_law_refs") [arg (arg E 1) 0] from fun _ => by kernel_rfl]
  refine cal_pure (f := .law_refs) (as := [.t (intsT w)]) (σ₁ := σ) (by kernel_rfl) rfl (evs_cons (σ₁ := σ) (by kernel_rfl) ?_ rfl) rfl (refs_ok (m + 63) hw)
  let B := subOf (arg (arg E 1) 0)
  refine (e_run (m + 74) lw5C Γ σ (arg (arg E 1) 0)).trans ?_
  rw [show ∀ σ, stepE (run (m + 74)) lw5C Γ σ (arg (arg E 1) 0) = sbsE (run (m + 74)) lw5C Γ σ B.1 B.2 from fun _ => by kernel_rfl]
  exact sbs_look (v := .own so) (by kernel_rfl) (by kernel_rfl) (by kernel_rfl) h hi

noncomputable def G5 (xs : List Int) (tp li so ro fi : Nat) : Ga := G4 xs tp li so ro ++ [(nm "first", .own fi)]
set_option tactic.hygienic false in
theorem law5 (m : Nat) {xs : List Int} {σ : Sg} {tp li so ro : Nat} {w1 w2 w3 w4 : List Int} (h1 : w1 ∈ ws) (h2 : w2 ∈ ws) (h3 : w3 ∈ ws) (h4 : w4 ∈ ws) (h : σ[so]? = some (.dict kW [intsT w1, intsT w2, intsT w3, intsT w4])) :
    ∃ t, stepS (R0 m) lwC (G4 xs tp li so ro) σ (st .law 5) = some (.next, G5 xs tp li so ro (σ.length + 1), σ.set so (.frz (.dict kW [intsT w1, intsT w2, intsT w3, intsT w4])) ++ [.frz t, .dict kW [refsT w1, refsT w2, refsT w3, refsT w4]]) := by
  let D : T := .dict kW [intsT w1, intsT w2, intsT w3, intsT w4]
  let Γ := G4 xs tp li so ro
  let σ' := σ.set so (.frz D)
  let E := exOf (st .law 5)
  let prsT : List T := [.tup [.str wON, refsT w1], .tup [.str wOFF, refsT w2], .tup [.str wLK, refsT w3], .tup [.str wOR, refsT w4]]
  have hD : frzL σ' so = some D := frzL_frz (get_self h)
  have len : (σ' ++ [OObj.frz (.list prsT)]).length = σ.length + 1 := by rw [List.length_append]; show (σ.set so (.frz D)).length + 1 = _; rw [List.length_set]
  refine ⟨.list prsT, ?_⟩
  have e := s_asg (R := R0 m) (cx := lwC) (Γ := Γ) (Γ' := G5 xs tp li so ro (σ.length + 1)) (σ := σ) (σ₁ := σ' ++ [.frz (.list prsT)] ++ [.dict kW [refsT w1, refsT w2, refsT w3, refsT w4]]) (s := st .law 5) (x := nm "first") (e := E) (v := .own (σ.length + 1)) (by kernel_rfl) (by kernel_rfl) ?_ (by kernel_rfl)
  · rw [e, List.append_assoc]; rfl
  refine (e_run (m + 78) lwC Γ σ E).trans ?_
  rw [show ∀ σ, stepE (run (m + 78)) lwC Γ σ E = calE (run (m + 78)) lwC Γ σ (nm "dict") [lw5L] from fun _ => by kernel_rfl, ← len]
  refine cal_new (b := .dict) (as := [.own σ'.length]) (σ₁ := σ' ++ [.list prsT]) (ts := [.list prsT]) (by kernel_rfl) (by decide) (evs_cons (by kernel_rfl) ?_ rfl) (frzs_one (frz_list _)) (by kernel_rfl)
  refine (e_run (m + 77) lwC Γ σ lw5L).trans ?_
  rw [show ∀ σ, stepE (run (m + 77)) lwC Γ σ lw5L = lcE (run (m + 77)) lwC Γ σ (eltOf lw5L) lw5G.1 lw5G.2.1 lw5G.2.2.1 lw5G.2.2.2 from fun _ => by kernel_rfl]
  refine lc_e (comp_e (vs := [.str wON, .str wOFF, .str wLK, .str wOR]) (σ₁ := σ') (by kernel_rfl) (src_call (v := .own so) (t := D) (σ₁ := σ) (by kernel_rfl) (by kernel_rfl) (frz_at (frzL_dict h)) (by kernel_rfl)) (by kernel_rfl) ?_)
  rw [show freeOf lw5G.2.2.2.names Γ = [(nm "some", .own so)] from by kernel_rfl]
  refine comp_cons (Γ' := [(nm "some", .own so), (nm "word", .t (.str wON))]) (by kernel_rfl) (by kernel_rfl) (turn5 m wON hD (by kernel_rfl) h1) rfl ?_
  refine comp_cons (Γ' := [(nm "some", .own so), (nm "word", .t (.str wOFF))]) (by kernel_rfl) (by kernel_rfl) (turn5 m wOFF hD (by kernel_rfl) h2) rfl ?_
  refine comp_cons (Γ' := [(nm "some", .own so), (nm "word", .t (.str wLK))]) (by kernel_rfl) (by kernel_rfl) (turn5 m wLK hD (by kernel_rfl) h3) rfl ?_
  exact comp_cons (Γ' := [(nm "some", .own so), (nm "word", .t (.str wOR))]) (by kernel_rfl) (by kernel_rfl) (turn5 m wOR hD (by kernel_rfl) h4) rfl rfl
end Mine
end
section
set_option maxRecDepth 100000
set_option autoImplicit false
namespace Mine
open PySem

noncomputable def kF : List Key := kW ++ [.s (nm "RBGroups")]
/-- the target of a store: o[k] -/
noncomputable def tgtOf : Stmt → Expr × Expr
  | .Assign [.Subscript o k _] _ _ => (o, k)
  | _ => (noE, noE)
noncomputable def kvOf : Expr → List (Option Expr) × List Expr
  | .Dict ks vs _ => (ks, vs)
  | _ => ([], [])
set_option tactic.hygienic false in
theorem law6 (m : Nat) {xs : List Int} {σ : Sg} {tp li so ro fi : Nat} {row : List Int} {r1 r2 r3 r4 : T} (hr : row ∈ ws) (h : frzL σ ro = some (intsT row)) (hf : σ[fi]? = some (.dict kW [r1, r2, r3, r4])) (hne : fi ≠ ro) :
    stepS (R0 m) lwC (G5 xs tp li so ro fi) σ (st .law 6) = some (.next, G5 xs tp li so ro fi, (σ.set ro (.frz (intsT row)) ++ [OObj.frz (.list [refsT row])]).set fi (.dict kF [r1, r2, r3, r4, .list [refsT row]])) := by
  let Γ := G5 xs tp li so ro fi
  let s := st .law 6
  let E := exOf s
  let σ1 := σ.set ro (.frz (intsT row))
  have hf1 : σ1[fi]? = some (.dict kW [r1, r2, r3, r4]) := get_other hf hne
  refine s_key (o := (tgtOf s).1) (k := (tgtOf s).2) (e := E) (v := .own σ1.length) (i := fi) (kt := .str (nm "RBGroups")) (q := .s (nm "RBGroups")) (t := .list [refsT row]) (σ₁ := σ1 ++ [OObj.list [refsT row]]) (σ₂ := σ1 ++ [OObj.frz (.list [refsT row])]) (by kernel_rfl) ?_ (by kernel_rfl) (by kernel_rfl) rfl (frz_list _) (get_app hf1) (by kernel_rfl)
  refine (e_run (m + 78) lwC Γ σ E).trans ?_
  rw [show ∀ σ, stepE (run (m + 78)) lwC Γ σ E = listE (run (m + 78)) lwC Γ σ [arg E 0] from fun _ => by kernel_rfl]
  refine list_of (vs := [.t (refsT row)]) (evs_cons (σ₁ := σ1) (by kernel_rfl) ?_ rfl) rfl rfl
  refine (e_run (m + 77) lwC Γ σ (arg E 0)).trans ?_
  rw [show ∀ σ, stepE (run (m + 77)) lwC Γ σ (arg E 0) = calE (run (m + 77)) lwC Γ σ (nm "_law_refs") (argsOf (arg E 0)) from fun _ => by kernel_rfl]
  exact cal_pure (f := .law_refs) (as := [.own ro]) (ts := [intsT row]) (σ₁ := σ) (by kernel_rfl) rfl (by kernel_rfl) (frzs_one (frz_at h)) (refs_ok (m + 65) hr)

noncomputable def G7 (xs : List Int) (tp li so ro fi rt : Nat) : Ga := G5 xs tp li so ro fi ++ [(nm "root", .own rt)]
noncomputable def kR : List Key := [.s (nm "Type"), .s (nm "OCProperties")]
noncomputable def kP : List Key := [.s (nm "OCGs"), .s (nm "D")]
noncomputable def catT : T := nameT (nm "Catalog")
/-  Name(..) -/
set_option tactic.hygienic false in
theorem name_new (m : Nat) {cx : Cx} {Γ : Ga} {σ : Sg} {e : Expr} {x : Str} (he : ∀ σ, stepE (run (m + 10)) cx Γ σ e = calE (run (m + 10)) cx Γ σ (nm "Name") (argsOf e)) (hn : nameV cx Γ (nm "Name") = some (.t (.cls .Name))) (ha : ∀ σ, evs (run (m + 10)) cx Γ σ (argsOf e) = some ([.t (.str x)], σ)) :
    (run (m + 11)).e cx Γ σ e = some (.own σ.length, σ ++ [.inst .Name [nm "text"] ([.str x].map .t)]) := by
  refine (e_run (m + 10) cx Γ σ e).trans ?_
  rw [he]
  exact cls_new (c := .Name) (f := .nameInit) (σ₁ := σ) hn rfl (ha σ) (name_init m σ x)
set_option tactic.hygienic false in
theorem str_new (m : Nat) {cx : Cx} {Γ : Ga} {σ : Sg} {e : Expr} {b : List UInt8} (he : ∀ σ, stepE (run (m + 10)) cx Γ σ e = calE (run (m + 10)) cx Γ σ (nm "String") (argsOf e)) (hn : nameV cx Γ (nm "String") = some (.t (.cls .String))) (ha : ∀ σ, evs (run (m + 10)) cx Γ σ (argsOf e) = some ([.t (.bytes b)], σ)) :
    (run (m + 11)).e cx Γ σ e = some (.own σ.length, σ ++ [.inst .String [nm "octets", nm "is_hex"] ([.bytes b, .bool false].map .t)]) := by
  refine (e_run (m + 10) cx Γ σ e).trans ?_
  rw [he]
  exact cls_new (c := .String) (f := .stringInit) (σ₁ := σ) hn rfl (ha σ) (str_init m σ b)

theorem frzL_app {σ τ : Sg} {i : Nat} {t : T} (h : frzL σ i = some t) : frzL (σ ++ τ) i = some t := by
  unfold frzL at h ⊢
  split at h <;> rename_i g <;> first | (cases h; done) | (rw [get_app g]; exact h)
theorem frzL_other {σ : Sg} {i j : Nat} {t : T} {o : OObj} (h : frzL σ i = some t) (n : i ≠ j) : frzL (σ.set j o) i = some t := by
  unfold frzL at h ⊢
  split at h <;> rename_i g <;> first | (cases h; done) | (rw [get_other g n]; exact h)
theorem frzL_lt {σ : Sg} {i : Nat} {t : T} (h : frzL σ i = some t) : i < σ.length := by
  unfold frzL at h
  split at h <;> rename_i g <;> first | (cases h; done) | exact get_lt g

set_option tactic.hygienic false in
theorem law7 (m : Nat) {xs : List Int} {σ : Sg} {tp li so ro fi : Nat} {L : List Int} {D : T} (hL : L ∈ ws) (h : frzL σ li = some (intsT L)) (hf : frzL σ fi = some D) (hne : fi ≠ li) :
    stepS (R0 m) lwC (G5 xs tp li so ro fi) σ (st .law 7) = some (.next, G7 xs tp li so ro fi (σ.length + 2), (((σ ++ [OObj.frz catT]).set li (.frz (intsT L))).set fi (.frz D)) ++ [OObj.frz (.dict kP [refsT L, D])] ++ [.dict kR [catT, .dict kP [refsT L, D]]]) := by
  let Γ := G5 xs tp li so ro fi
  let s := st .law 7
  let E := exOf s
  let k1 := ((kvOf E).1[0]?.getD none).getD noE
  let k2 := ((kvOf E).1[1]?.getD none).getD noE
  let v1 := (kvOf E).2[0]?.getD noE
  let v2 := (kvOf E).2[1]?.getD noE
  let j1 := ((kvOf v2).1[0]?.getD none).getD noE
  let j2 := ((kvOf v2).1[1]?.getD none).getD noE
  let u1 := (kvOf v2).2[0]?.getD noE
  let u2 := (kvOf v2).2[1]?.getD noE
  let σ1 := σ ++ [OObj.frz catT]
  let σ2 := σ1.set li (.frz (intsT L))
  let σ3 := σ2.set fi (.frz D)
  have len : (σ3 ++ [OObj.frz (.dict kP [refsT L, D])]).length = σ.length + 2 := by
    rw [List.length_append]; show ((σ1.set li _).set fi _).length + 1 = _; rw [List.length_set, List.length_set, List.length_append]; rfl
  refine s_asg (x := nm "root") (e := E) (v := .own (σ.length + 2)) (by kernel_rfl) (by kernel_rfl) ?_ (by kernel_rfl)
  refine (e_run (m + 78) lwC Γ σ E).trans ?_
  rw [show ∀ σ, stepE (run (m + 78)) lwC Γ σ E = dctE (run (m + 78)) lwC Γ σ [some k1, some k2] [v1, v2] from fun _ => by kernel_rfl, ← len]
  refine dct_of rfl (l := [(.s (nm "Type"), catT), (.s (nm "OCProperties"), .dict kP [refsT L, D])]) ?_ (by kernel_rfl)
  refine dictE_cons (kt := .str (nm "Type")) (a := .own σ.length) (by kernel_rfl) rfl (name_new (m + 67) (x := nm "Catalog") (fun _ => by kernel_rfl) (by kernel_rfl) (fun _ => by kernel_rfl)) (frz_inst [.str (nm "Catalog")]) ?_
  refine dictE_cons (kt := .str (nm "OCProperties")) (a := .own σ3.length) (σ₁ := σ3 ++ [OObj.dict kP [refsT L, D]]) (by kernel_rfl) rfl ?_ (frz_dict ..) rfl
  refine (e_run (m + 77) lwC Γ σ1 v2).trans ?_
  rw [show ∀ σ, stepE (run (m + 77)) lwC Γ σ v2 = dctE (run (m + 77)) lwC Γ σ [some j1, some j2] [u1, u2] from fun _ => by kernel_rfl]
  refine dct_of rfl (l := [(.s (nm "OCGs"), refsT L), (.s (nm "D"), D)]) ?_ (by kernel_rfl)
  refine dictE_cons (kt := .str (nm "OCGs")) (a := .t (refsT L)) (σ₁ := σ2) (by kernel_rfl) rfl ?_ rfl ?_
  · refine (e_run (m + 76) lwC Γ σ1 u1).trans ?_
    rw [show ∀ σ, stepE (run (m + 76)) lwC Γ σ u1 = calE (run (m + 76)) lwC Γ σ (nm "_law_refs") (argsOf u1) from fun _ => by kernel_rfl]
    exact cal_pure (f := .law_refs) (as := [.own li]) (ts := [intsT L]) (σ₁ := σ1) (by kernel_rfl) rfl (by kernel_rfl) (frzs_one (frz_at (frzL_app h))) (refs_ok (m + 64) hL)
  · exact dictE_cons (kt := .str (nm "D")) (a := .own fi) (σ₁ := σ2) (by kernel_rfl) rfl (by kernel_rfl) (frz_at (frzL_other (frzL_app hf) hne)) rfl

set_option tactic.hygienic false in
theorem frzs_t {σ σ₁ : Sg} {x : T} {r : List AV} {ts : List T} (h : frzs σ r = some (ts, σ₁)) : frzs σ (.t x :: r) = some (x :: ts, σ₁) := by simp only [frzs, frz, h]

/-! the table's four -/
noncomputable def G8 (xs : List Int) (tp li so ro fi rt ta : Nat) : Ga := G7 xs tp li so ro fi rt ++ [(nm "table", .own ta)]
set_option tactic.hygienic false in
theorem law8 (m : Nat) {xs : List Int} {σ : Sg} {tp li so ro fi rt : Nat} : stepS (R0 m) lwC (G7 xs tp li so ro fi rt) σ (st .law 8) = some (.next, G8 xs tp li so ro fi rt σ.length, σ ++ [.dict [] []]) := by kernel_rfl
noncomputable def ocgN : T := nameT (nm "OCG")
noncomputable def ocgS : T := strT [120]
set_option tactic.hygienic false in
theorem ocg_step (m : Nat) {σ : Sg} {ta : Nat} {Γ : Ga} {n : Int} {ks ks' : List Key} {ts ts' : List T} (hn : ∀ σ, (run (m + 78)).e lwC Γ σ (tgtOf (nth (bodyOf (st .law 9)) 0)).2 = some (.t (.int n), σ)) (ht : ∀ σ, (run (m + 78)).e lwC Γ σ (tgtOf (nth (bodyOf (st .law 9)) 0)).1 = some (.own ta, σ))
    (hN : nameV lwC Γ (nm "Name") = some (.t (.cls .Name))) (hS : nameV lwC Γ (nm "String") = some (.t (.cls .String)))
    (h : σ[ta]? = some (.dict ks ts)) (hp : putD (.i n) ocgT ks ts = some (ks', ts')) :
    (R0 m).x lwC Γ σ (bodyOf (st .law 9)) = some (.next, Γ, (σ ++ [OObj.frz ocgN] ++ [OObj.frz ocgS] ++ [OObj.frz ocgD]).set ta (.dict ks' ts')) := by
  let s := nth (bodyOf (st .law 9)) 0
  let E := exOf s
  let d := arg E 1
  let k1 := ((kvOf d).1[0]?.getD none).getD noE
  let k2 := ((kvOf d).1[1]?.getD none).getD noE
  let v1 := (kvOf d).2[0]?.getD noE
  let v2 := (kvOf d).2[1]?.getD noE
  let σ1 := σ ++ [OObj.frz ocgN]
  let σ2 := σ1 ++ [OObj.frz ocgS]
  let σ3 := σ2 ++ [OObj.frz ocgD]
  refine (x_run (m + 78) lwC Γ σ (bodyOf (st .law 9))).trans ?_
  rw [show bodyOf (st .law 9) = [s] from by kernel_rfl]
  refine x_next (s_key (o := (tgtOf s).1) (k := (tgtOf s).2) (e := E) (v := .t ocgT) (i := ta) (kt := .int n) (q := .i n) (t := ocgT) (σ₁ := σ3) (σ₂ := σ3) (by kernel_rfl) ?_ (ht _) (hn _) rfl rfl (get_app (get_app (get_app h))) hp) rfl
  refine (e_run (m + 77) lwC Γ σ E).trans ?_
  rw [show ∀ σ, stepE (run (m + 77)) lwC Γ σ E = tupE (run (m + 77)) lwC Γ σ [arg E 0, d] from fun _ => by kernel_rfl]
  refine tup_of (vs := [.t (.int 0), .own σ2.length]) (ts := [.int 0, ocgD]) (σ₁ := σ2 ++ [OObj.dict [.s (nm "Type"), .s (nm "Name")] [ocgN, ocgS]]) (evs_cons (σ₁ := σ) (by kernel_rfl) (by kernel_rfl) (evs_cons (by kernel_rfl) ?_ rfl)) ?_ rfl
  · refine (e_run (m + 76) lwC Γ σ d).trans ?_
    rw [show ∀ σ, stepE (run (m + 76)) lwC Γ σ d = dctE (run (m + 76)) lwC Γ σ [some k1, some k2] [v1, v2] from fun _ => by kernel_rfl]
    refine dct_of rfl (l := [(.s (nm "Type"), ocgN), (.s (nm "Name"), ocgS)]) ?_ (by kernel_rfl)
    refine dictE_cons (kt := .str (nm "Type")) (a := .own σ.length) (by kernel_rfl) rfl (name_new (m + 65) (x := nm "OCG") (fun _ => by kernel_rfl) hN (fun _ => by kernel_rfl)) (frz_inst [.str (nm "OCG")]) ?_
    exact dictE_cons (kt := .str (nm "Name")) (a := .own σ1.length) (by kernel_rfl) rfl (str_new (m + 65) (b := [120]) (fun _ => by kernel_rfl) hS (fun _ => by kernel_rfl)) (frz_inst [.bytes [120], .bool false]) rfl
  · exact frzs_t (frzs_one (frz_dict ..))
end Mine
end
section
set_option maxRecDepth 100000
set_option autoImplicit false
namespace Mine
open PySem

set_option tactic.hygienic false in
theorem x_next' {R : Rec} {cx : Cx} {Γ Γ₁ : Ga} {σ σ₁ : Sg} {s : Stmt} {r : List Stmt} (h : stepS R cx Γ σ s = some (.next, Γ₁, σ₁)) : stepX R cx Γ σ (s :: r) = stepX R cx Γ₁ σ₁ r := by rw [stepX, h]
noncomputable def kO : List Key := [.i 10, .i 11, .i 12, .i 13]
structure Lw (p : Nat) (σ : Sg) (cells : List Int) (at_ : Int) (L row w1 w2 w3 w4 : List Int) (ks : List Key) (ts : List T) : Prop where
  tape : σ[p]? = some (tapeO cells at_)
  li : frzL σ (p + 2) = some (intsT L)
  so : frzL σ (p + 3) = some (.dict kW [intsT w1, intsT w2, intsT w3, intsT w4])
  ro : frzL σ (p + 8) = some (intsT row)
  rt : σ[p + 14]? = some (.dict kR [catT, .dict kP [refsT L, fstT row w1 w2 w3 w4]])
  ta : σ[p + 15]? = some (.dict ks ts)
section
variable {p : Nat} {σ τ : Sg} {cells : List Int} {at_ at' : Int} {L row w1 w2 w3 w4 : List Int} {ks ks' : List Key} {ts ts' : List T}
theorem Lw.app (B : Lw p σ cells at_ L row w1 w2 w3 w4 ks ts) : Lw p (σ ++ τ) cells at_ L row w1 w2 w3 w4 ks ts :=
  ⟨get_app B.tape, frzL_app B.li, frzL_app B.so, frzL_app B.ro, get_app B.rt, get_app B.ta⟩
theorem Lw.put (B : Lw p σ cells at_ L row w1 w2 w3 w4 ks ts) (ks' : List Key) (ts' : List T) : Lw p (σ.set (p + 15) (.dict ks' ts')) cells at_ L row w1 w2 w3 w4 ks' ts' :=
  ⟨get_other B.tape (by omega), frzL_other B.li (by omega), frzL_other B.so (by omega), frzL_other B.ro (by omega), get_other B.rt (by omega), get_self B.ta⟩
theorem Lw.draw (B : Lw p σ cells at_ L row w1 w2 w3 w4 ks ts) (at' : Int) : Lw p (σ.set p (tapeO cells at')) cells at' L row w1 w2 w3 w4 ks ts :=
  ⟨get_self B.tape, frzL_other B.li (by omega), frzL_other B.so (by omega), frzL_other B.ro (by omega), get_other B.rt (by omega), get_other B.ta (by omega)⟩
theorem Lw.set (B : Lw p σ cells at_ L row w1 w2 w3 w4 ks ts) {j : Nat} (h : p + 15 < j) (o : OObj) : Lw p (σ.set j o) cells at_ L row w1 w2 w3 w4 ks ts :=
  ⟨get_other B.tape (by omega), frzL_other B.li (by omega), frzL_other B.so (by omega), frzL_other B.ro (by omega), get_other B.rt (by omega), get_other B.ta (by omega)⟩
theorem Lw.lt (B : Lw p σ cells at_ L row w1 w2 w3 w4 ks ts) : p + 15 < σ.length := get_lt B.ta
end

noncomputable def GT (xs : List Int) (p : Nat) : Ga := G8 xs p (p + 2) (p + 3) (p + 8) (p + 10) (p + 14) (p + 15)
noncomputable def GTn (xs : List Int) (p : Nat) (n : Int) : Ga := GT xs p ++ [(nm "number", .t (.int n))]
noncomputable def GA (xs : List Int) (p fs : Nat) : Ga := GT xs p ++ [(nm "fields", .own fs)]

theorem ocg_turn (m : Nat) {xs : List Int} {p : Nat} {σ : Sg} {cells : List Int} {at_ : Int} {L row w1 w2 w3 w4 : List Int} {ks : List Key} {ts : List T} (B : Lw p σ cells at_ L row w1 w2 w3 w4 ks ts) (n : Int) {ks' : List Key} {ts' : List T} (hp : putD (.i n) ocgT ks ts = some (ks', ts')) :
    ∃ σ', Lw p σ' cells at_ L row w1 w2 w3 w4 ks' ts' ∧ (R0 m).x lwC (GTn xs p n) σ (bodyOf (st .law 9)) = some (.next, GTn xs p n, σ') :=
  ⟨_, (Lw.app (Lw.app (Lw.app B))).put ks' ts', ocg_step m (fun _ => by kernel_rfl) (fun _ => by kernel_rfl) (by kernel_rfl) (by kernel_rfl) B.ta hp⟩
set_option tactic.hygienic false in
theorem law9 (m : Nat) {xs : List Int} {p : Nat} {σ : Sg} {cells : List Int} {at_ : Int} {L row w1 w2 w3 w4 : List Int} (B : Lw p σ cells at_ L row w1 w2 w3 w4 [] []) :
    ∃ σ', Lw p σ' cells at_ L row w1 w2 w3 w4 kO [ocgT, ocgT, ocgT, ocgT] ∧ stepS (R0 m) lwC (GT xs p) σ (st .law 9) = some (.next, GT xs p, σ') := by
  obtain ⟨σ1, B1, e1⟩ := ocg_turn (xs := xs) m B 10 (ks' := [.i 10]) (ts' := [ocgT]) (by kernel_rfl)
  obtain ⟨σ2, B2, e2⟩ := ocg_turn (xs := xs) m B1 11 (ks' := [.i 10, .i 11]) (ts' := [ocgT, ocgT]) (by kernel_rfl)
  obtain ⟨σ3, B3, e3⟩ := ocg_turn (xs := xs) m B2 12 (ks' := [.i 10, .i 11, .i 12]) (ts' := [ocgT, ocgT, ocgT]) (by kernel_rfl)
  obtain ⟨σ4, B4, e4⟩ := ocg_turn (xs := xs) m B3 13 (ks' := kO) (ts' := [ocgT, ocgT, ocgT, ocgT]) (by kernel_rfl)
  refine ⟨σ4, B4, ?_⟩
  refine s_for (tg := tgOf (st .law 9)) (it := exOf (st .law 9)) (body := bodyOf (st .law 9)) (vs := [.int 10, .int 11, .int 12, .int 13]) (σ₁ := σ) (by kernel_rfl) (by kernel_rfl) ?_
  refine for_cons (by kernel_rfl) e1 (for_cons (by kernel_rfl) e2 (for_cons (by kernel_rfl) e3 (for_cons (by kernel_rfl) e4 (for_nil.trans (by kernel_rfl)))))

inductive LawA (m : Nat) (xs : List Int) : Prop
  | mk (p fs : Nat) (σ : Sg) (cells : List Int) (at_ : Int) (L row w1 w2 w3 w4 : List Int) (hc : 0 < cells.length) (hl : cells.length ≤ 100) (a0 : 0 ≤ at_) (a1 : at_ ≤ 20) (hR : LRow L row) (h1 : w1 ∈ ws) (h2 : w2 ∈ ws) (h3 : w3 ∈ ws) (h4 : w4 ∈ ws)
    (B : Lw p σ cells at_ L row w1 w2 w3 w4 kO [ocgT, ocgT, ocgT, ocgT]) (hf : σ[fs]? = some (.list [])) (hpf : p + 15 < fs)
    (ea : ∀ rest, stepX (R0 m) lwC [(nm "script", .t (intsT xs))] [] (st .law 0 :: st .law 1 :: st .law 2 :: st .law 3 :: st .law 4 :: st .law 5 :: st .law 6 :: st .law 7 :: st .law 8 :: st .law 9 :: st .law 10 :: rest) = stepX (R0 m) lwC (GA xs p fs) σ rest) : LawA m xs
set_option tactic.hygienic false in
theorem law_a (m : Nat) (xs : List Int) (hx : xs.length ≤ 63) : LawA m xs := by
  obtain ⟨P, cells, hc, hl, e0⟩ := law0 m xs hx
  obtain ⟨L, hL, e1⟩ := law1 (xs := xs) m hc hl P
  have hLl : L.length ≤ 3 := by cases hL <;> decide
  let p := P.length
  have e2 : stepS (R0 m) lwC (G2 xs p (p + 2)) (P ++ [tapeO cells 1, l3O, .list (L.map .int)]) (st .law 2) = some (.next, G3 xs p (p + 2) (p + 3), P ++ [tapeO cells 1, l3O, .list (L.map .int), .dict [] []]) := by
    have e : stepS (R0 m) lwC (G2 xs p (p + 2)) (P ++ [tapeO cells 1, l3O, .list (L.map .int)]) (st .law 2) = some (.next, G3 xs p (p + 2) (P ++ [tapeO cells 1, l3O, .list (L.map .int)]).length, (P ++ [tapeO cells 1, l3O, .list (L.map .int)]) ++ [.dict [] []]) := by kernel_rfl
    rw [e, List.length_append, List.append_assoc]; rfl
  obtain ⟨w1, w2, w3, w4, h1, h2, h3, h4, e3⟩ := law3 (xs := xs) m hc hl P (.list (L.map .int))
  obtain ⟨row, hR, e4⟩ := law4 (xs := xs) m hc hl P hL (.dict kW [intsT w1, intsT w2, intsT w3, intsT w4]) (.frz (intsT w1)) (.frz (intsT w2)) (.frz (intsT w3)) (.frz (intsT w4))
  let a4 : Int := 17 + L.length
  let W : OObj := .frz (.dict kW [intsT w1, intsT w2, intsT w3, intsT w4])
  obtain ⟨t5, e5⟩ := law5 m (xs := xs) (tp := p) (li := p + 2) (so := p + 3) (ro := p + 8) h1 h2 h3 h4 (pget (P := P) (k := 3) (τ := [tapeO cells a4, l3O, .frz (intsT L), .dict kW [intsT w1, intsT w2, intsT w3, intsT w4], .frz (intsT w1), .frz (intsT w2), .frz (intsT w3), .frz (intsT w4), .list (row.map .int)]) rfl)
  rw [pset, List.append_assoc, List.length_append] at e5
  have e6 := law6 m (xs := xs) (tp := p) (li := p + 2) (so := p + 3) (ro := p + 8) (fi := p + 10) (r1 := refsT w1) (r2 := refsT w2) (r3 := refsT w3) (r4 := refsT w4) (σ := P ++ [tapeO cells a4, l3O, .frz (intsT L), W, .frz (intsT w1), .frz (intsT w2), .frz (intsT w3), .frz (intsT w4), .list (row.map .int), .frz t5, .dict kW [refsT w1, refsT w2, refsT w3, refsT w4]]) hR.ws (frzL_list (pget (k := 8) rfl)) (pget (k := 10) rfl) (by omega)
  rw [pset, List.append_assoc, pset] at e6
  have e7 := law7 m (xs := xs) (tp := p) (li := p + 2) (so := p + 3) (ro := p + 8) (fi := p + 10) (L := L) (D := fstT row w1 w2 w3 w4) (σ := P ++ [tapeO cells a4, l3O, .frz (intsT L), W, .frz (intsT w1), .frz (intsT w2), .frz (intsT w3), .frz (intsT w4), .frz (intsT row), .frz t5, .dict kF [refsT w1, refsT w2, refsT w3, refsT w4, .list [refsT row]], .frz (.list [refsT row])]) (lst_ws hL) (frzL_frz (pget (k := 2) rfl)) (frzL_dict (pget (k := 10) rfl)) (by omega)
  rw [List.append_assoc P, pset, pset, List.append_assoc P, List.append_assoc P, List.length_append] at e7
  let σ7 := P ++ [tapeO cells a4, l3O, .frz (intsT L), W, .frz (intsT w1), .frz (intsT w2), .frz (intsT w3), .frz (intsT w4), .frz (intsT row), .frz t5, .frz (fstT row w1 w2 w3 w4), .frz (.list [refsT row]), .frz catT, .frz (.dict kP [refsT L, fstT row w1 w2 w3 w4]), .dict kR [catT, .dict kP [refsT L, fstT row w1 w2 w3 w4]]]
  have e8 : stepS (R0 m) lwC (G7 xs p (p + 2) (p + 3) (p + 8) (p + 10) (p + 14)) σ7 (st .law 8) = some (.next, GT xs p, σ7 ++ [.dict [] []]) := by
    rw [law8]; show some (_, G8 _ _ _ _ _ _ _ (P ++ _).length, _) = _
    rw [List.length_append]; rfl
  have B8 : Lw p (σ7 ++ [.dict [] []]) cells a4 L row w1 w2 w3 w4 [] [] :=
    Lw.mk (get_app (pget0 rfl)) (frzL_app (frzL_frz (pget (k := 2) rfl))) (frzL_app (frzL_frz (pget (k := 3) rfl))) (frzL_app (frzL_frz (pget (k := 8) rfl))) (get_app (pget (k := 14) rfl)) (by
      have : (σ7 ++ [OObj.dict [] []])[σ7.length]? = some (.dict [] []) := get_new
      rw [show σ7.length = p + 15 from List.length_append] at this
      exact this)
  obtain ⟨σ9, B9, e9⟩ := law9 (xs := xs) m B8
  have e10 : stepS (R0 m) lwC (GT xs p) σ9 (st .law 10) = some (.next, GA xs p σ9.length, σ9 ++ [.list []]) := by kernel_rfl
  refine ⟨p, σ9.length, σ9 ++ [.list []], cells, a4, L, row, w1, w2, w3, w4, hc, hl, by omega, by omega, hR, h1, h2, h3, h4, B9.app, get_new, B9.lt, fun rest => ?_⟩
  exact (x_next' e0).trans ((x_next' e1).trans ((x_next' e2).trans ((x_next' e3).trans ((x_next' e4).trans ((x_next' e5).trans ((x_next' e6).trans ((x_next' e7).trans ((x_next' e8).trans ((x_next' e9).trans (x_next' e10))))))))))
end Mine
end
section
set_option maxRecDepth 100000
set_option autoImplicit false
namespace Mine
open PySem

section
variable {R : Rec} {cx : Cx} {Γ Γ' Γ₁ : Ga} {σ σ₁ σ₂ σ₃ : Sg}
set_option tactic.hygienic false in
theorem sbs_gen {o i : Expr} {v : AV} {x k t : T} (h0 : notSlice i = true) (h1 : R.e cx Γ σ o = some (v, σ₁)) (h2 : R.e cx Γ σ₁ i = some (.t k, σ₂)) (hl : look σ₂ v = some x) (h3 : itemT x k = some t) : sbsE R cx Γ σ o i = some (.t t, σ₂) := by
  simp only [sbsE, h0, h1, h2, hl, h3, Option.map_some]
set_option tactic.hygienic false in
theorem frz_inst_at {c : CN} {ns : List Str} {ts : List T} {i : Nat} (g : σ[i]? = some (.inst c ns (ts.map .t))) : frz σ (.own i) = some (.inst c ns ts, σ.set i (.frz (.inst c ns ts))) := by
  simp only [frz, g, frzVs_t]
set_option tactic.hygienic false in
theorem frzs_own {v : AV} {t : T} {r : List AV} {ts : List T} (h : frz σ v = some (t, σ₁)) (k : frzs σ₁ r = some (ts, σ₂)) : frzs σ (v :: r) = some (t :: ts, σ₂) := by simp only [frzs, h, k]
end

noncomputable def kH : List Key := [.s (nm "T"), .s (nm "FT"), .s (nm "MaxLen")]
noncomputable def txT : T := nameT (nm "Tx")
/-- V is drawn -/
noncomputable def fb : List Stmt := bodyOf (st .law 11)
noncomputable def fb0 : Stmt := nth fb 0
noncomputable def fb1 : Stmt := nth fb 1
noncomputable def fb2 : Stmt := nth fb 2
noncomputable def fb3 : Stmt := nth fb 3
noncomputable def GH (xs : List Int) (p fs : Nat) (n : Int) (h : Nat) : Ga := GA xs p fs ++ [(nm "number", .t (.int n)), (nm "head", .own h)]
noncomputable def GJ (xs : List Int) (p fs : Nat) (n : Int) (Γ : Ga) : Prop := Γ = GA xs p fs ++ [(nm "number", .t (.int n))] ∨ ∃ h, Γ = GH xs p fs n h

noncomputable def vT : Vv → List Key × List T
  | .no => ([], [])
  | .abc => ([.s (nm "V")], [strT [97, 98, 99]])
  | .abcd => ([.s (nm "V")], [strT [97, 98, 99, 100]])
  | .seven => ([.s (nm "V")], [.int 7])
set_option tactic.hygienic false in
theorem headT_eq (i : Nat) (v : Vv) : headT i v = .dict (kH ++ (vT v).1) ([strT (tOf i), txT, .int 3] ++ (vT v).2) := by cases v <;> rfl

section
variable (m : Nat) {xs : List Int} {p fs : Nat} {σ : Sg} {cells : List Int} {at_ : Int} {L row w1 w2 w3 w4 : List Int} {ks : List Key} {ts : List T}

set_option tactic.hygienic false in
theorem fld0 (i : Nat) (hi : i ≤ 2) {Γ : Ga} (hΓ : GJ xs p fs (20 + i) Γ) : stepS (run (m + 78)) lwC Γ σ fb0 = some (.next, GH xs p fs (20 + i) (σ.length + 2), σ ++ [OObj.frz (strT (tOf i))] ++ [OObj.frz txT] ++ [.dict kH [strT (tOf i), txT, .int 3]]) := by
  let E := exOf fb0
  let k1 := ((kvOf E).1[0]?.getD none).getD noE
  let k2 := ((kvOf E).1[1]?.getD none).getD noE
  let k3 := ((kvOf E).1[2]?.getD none).getD noE
  let v1 := (kvOf E).2[0]?.getD noE
  let v2 := (kvOf E).2[1]?.getD noE
  let v3 := (kvOf E).2[2]?.getD noE
  let σ2 := σ ++ [OObj.frz (strT (tOf i))] ++ [OObj.frz txT]
  have len : σ2.length = σ.length + 2 := by rw [List.length_append, List.length_append]; rfl
  have hE : (run (m + 78)).e lwC Γ σ E = some (.own σ2.length, σ2 ++ [.dict kH [strT (tOf i), txT, .int 3]]) := by
    refine (e_run (m + 77) lwC Γ σ E).trans ?_
    rw [show ∀ Γ σ, stepE (run (m + 77)) lwC Γ σ E = dctE (run (m + 77)) lwC Γ σ [some k1, some k2, some k3] [v1, v2, v3] from fun _ _ => by kernel_rfl]
    refine dct_of rfl (l := [(.s (nm "T"), strT (tOf i)), (.s (nm "FT"), txT), (.s (nm "MaxLen"), .int 3)]) ?_ (by kernel_rfl)
    refine dictE_cons (kt := .str (nm "T")) (a := .own σ.length) (by kernel_rfl) rfl (str_new (m + 66) (b := tOf i) (fun _ => by kernel_rfl) (by rcases hΓ with rfl | ⟨h, rfl⟩ <;> kernel_rfl) (fun _ => ?_)) (frz_inst [.bytes (tOf i), .bool false]) ?_
    · rcases i with _ | _ | _ | i
      · rcases hΓ with rfl | ⟨h, rfl⟩ <;> kernel_rfl
      · rcases hΓ with rfl | ⟨h, rfl⟩ <;> kernel_rfl
      · rcases hΓ with rfl | ⟨h, rfl⟩ <;> kernel_rfl
      · omega
    refine dictE_cons (kt := .str (nm "FT")) (a := .own (σ ++ [OObj.frz (strT (tOf i))]).length) (by kernel_rfl) rfl (name_new (m + 66) (x := nm "Tx") (fun _ => by kernel_rfl) (by rcases hΓ with rfl | ⟨h, rfl⟩ <;> kernel_rfl) (fun _ => by kernel_rfl)) (frz_inst [.str (nm "Tx")]) ?_
    exact dictE_cons (kt := .str (nm "MaxLen")) (a := .t (.int 3)) (by kernel_rfl) rfl (by kernel_rfl) rfl rfl
  rw [len] at hE
  exact s_asg (x := nm "head") (e := E) (v := .own (σ.length + 2)) (by kernel_rfl) (by kernel_rfl) hE (by rcases hΓ with rfl | ⟨h, rfl⟩ <;> kernel_rfl)

/-  the V, when it is drawn -/
set_option tactic.hygienic false in
theorem fldV (hc : 0 < cells.length) (hl : cells.length ≤ 100) {n : Int} {h : Nat} {vs : List T} (B : Lw p σ cells at_ L row w1 w2 w3 w4 ks ts) (hh : σ[h]? = some (.dict kH vs)) (hvs : ∃ a b c, vs = [a, b, c]) (hf : ∃ o, σ[fs]? = some o) (hph : p + 15 < h) (hpf : p + 15 < fs) (hne : fs ≠ h) (ha : 0 ≤ at_) (hb : at_ ≤ 100) :
    ∃ (v : Vv) (σ' : Sg), Lw p σ' cells (at_ + 1) L row w1 w2 w3 w4 ks ts ∧ σ'[h]? = some (.dict (kH ++ (vT v).1) (vs ++ (vT v).2)) ∧ σ'[fs]? = σ[fs]? ∧ (run (m + 78)).x lwC (GH xs p fs n h) σ (bodyOf fb1) = some (.next, GH xs p fs n h, σ') := by
  let Γ := GH xs p fs n h
  let s := nth (bodyOf fb1) 0
  let E := exOf s
  let Q := subOf E
  let A := arg Q.1 0
  let C := arg Q.1 1
  let S1 : T := strT [97, 98, 99]
  let S2 : T := strT [97, 98, 99, 100]
  let i1 : OObj := .inst .String [nm "octets", nm "is_hex"] ([T.bytes [97, 98, 99], .bool false].map .t)
  let i2 : OObj := .inst .String [nm "octets", nm "is_hex"] ([T.bytes [97, 98, 99, 100], .bool false].map .t)
  let j := σ.length
  let σ1 := σ ++ [i1] ++ [i2]
  let σ2 := (σ1.set j (.frz S1)).set (j + 1) (.frz S2)
  have len1 : (σ ++ [i1]).length = j + 1 := List.length_append
  have g1 : σ1[j]? = some i1 := get_app get_new
  have g2 : (σ1.set j (.frz S1))[j + 1]? = some i2 := by
    refine get_other ?_ (by omega)
    have := get_new (σ := σ ++ [i1]) (o := i2)
    rw [len1] at this; exact this
  have B2 : Lw p σ2 cells at_ L row w1 w2 w3 w4 ks ts := ((B.app.app).set B.lt _).set (by have := B.lt; omega) _
  have h2 : σ2[h]? = some (.dict kH vs) := get_other (get_other (get_app (get_app hh)) (by have := get_lt hh; omega)) (by have := get_lt hh; omega)
  have f2 : σ2[fs]? = σ[fs]? := by
    obtain ⟨o, ho⟩ := hf
    rw [ho]
    exact get_other (get_other (get_app (get_app ho)) (by have := get_lt ho; omega)) (by have := get_lt ho; omega)
  obtain ⟨x, x0, x3, hd⟩ := draw_ok (m + 55) (k := 3) B2.tape hc hl ha (by omega) (by decide)
  have hpt : h ≠ p := by omega
  have h3 : (σ2.set p (tapeO cells (at_ + 1)))[h]? = some (.dict kH vs) := get_other h2 hpt
  have f3 : (σ2.set p (tapeO cells (at_ + 1)))[fs]? = σ[fs]? := by rw [List.getElem?_set_ne (by omega)]; exact f2
  have B3 := B2.draw (at_ + 1)
  have hT : (run (m + 76)).e lwC Γ σ Q.1 = some (.t (.tup [S1, S2, .int 7]), σ2) := by
    refine (e_run (m + 75) lwC Γ σ Q.1).trans ?_
    rw [show ∀ σ, stepE (run (m + 75)) lwC Γ σ Q.1 = tupE (run (m + 75)) lwC Γ σ [A, C, arg Q.1 2] from fun _ => by kernel_rfl]
    refine tup_of (vs := [.own j, .own (j + 1), .t (.int 7)]) (σ₁ := σ1) ?_ (frzs_own (frz_inst_at g1) (frzs_own (frz_inst_at g2) (frzs_t rfl))) rfl
    rw [← len1]
    exact evs_cons (by kernel_rfl) (str_new (m + 64) (b := [97, 98, 99]) (fun _ => by kernel_rfl) (by kernel_rfl) (fun _ => by kernel_rfl)) (evs_cons (by kernel_rfl) (str_new (m + 64) (b := [97, 98, 99, 100]) (fun _ => by kernel_rfl) (by kernel_rfl) (fun _ => by kernel_rfl)) (evs_cons (by kernel_rfl) (by kernel_rfl) rfl))
  have hD : (run (m + 76)).e lwC Γ σ2 Q.2 = some (.t (.int x), σ2.set p (tapeO cells (at_ + 1))) := by
    refine (e_run (m + 75) lwC Γ σ2 Q.2).trans ?_
    rw [show ∀ σ, stepE (run (m + 75)) lwC Γ σ Q.2 = calE (run (m + 75)) lwC Γ σ (nm "_law_draw") (argsOf Q.2) from fun _ => by kernel_rfl]
    exact cal_imp (f := .law_draw) (as := [.own p, .t (.int 3)]) (σ₁ := σ2) (by kernel_rfl) rfl (by kernel_rfl) hd
  have fin : ∀ (v : Vv) (t : T), itemT (.tup [S1, S2, .int 7]) (.int x) = some t → putD (.s (nm "V")) t kH vs = some (kH ++ (vT v).1, vs ++ (vT v).2) →
      ∃ (v : Vv) (σ' : Sg), Lw p σ' cells (at_ + 1) L row w1 w2 w3 w4 ks ts ∧ σ'[h]? = some (.dict (kH ++ (vT v).1) (vs ++ (vT v).2)) ∧ σ'[fs]? = σ[fs]? ∧ (run (m + 78)).x lwC Γ σ (bodyOf fb1) = some (.next, Γ, σ') := by
    intro v t hi hp
    refine ⟨v, (σ2.set p (tapeO cells (at_ + 1))).set h (.dict (kH ++ (vT v).1) (vs ++ (vT v).2)), B3.set hph _, get_self h3, ?_, ?_⟩
    · rw [List.getElem?_set_ne (fun e => hne e.symm)]; exact f3
    · refine (x_run (m + 77) lwC Γ σ (bodyOf fb1)).trans ?_
      rw [show bodyOf fb1 = [s] from by kernel_rfl]
      refine x_next (s_key (o := (tgtOf s).1) (k := (tgtOf s).2) (e := E) (v := .t t) (i := h) (kt := .str (nm "V")) (q := .s (nm "V")) (t := t) (σ₁ := σ2.set p (tapeO cells (at_ + 1))) (by kernel_rfl) ?_ (by kernel_rfl) (by kernel_rfl) rfl rfl h3 hp) rfl
      refine (e_run (m + 76) lwC Γ σ E).trans ?_
      rw [show ∀ σ, stepE (run (m + 76)) lwC Γ σ E = sbsE (run (m + 76)) lwC Γ σ Q.1 Q.2 from fun _ => by kernel_rfl]
      exact sbs_gen (by kernel_rfl) hT hD rfl hi
  obtain ⟨a, b, c, rfl⟩ := hvs
  have hx : x = 0 ∨ x = 1 ∨ x = 2 := by omega
  rcases hx with rfl | rfl | rfl
  · exact fin .abc S1 rfl (by kernel_rfl)
  · exact fin .abcd S2 rfl (by kernel_rfl)
  · exact fin .seven (.int 7) rfl (by kernel_rfl)
end
end Mine
end
section
set_option maxRecDepth 100000
set_option autoImplicit false
namespace Mine
open PySem

noncomputable def GHs (xs : List Int) (p fs h : Nat) : Ga := GA xs p fs ++ [(nm "head", .own h)]
section
variable (m : Nat) {xs : List Int} {p fs : Nat} {σ : Sg} {cells : List Int} {at_ : Int} {L row w1 w2 w3 w4 : List Int} {ks : List Key} {ts : List T}
set_option tactic.hygienic false in
theorem fld1 (hc : 0 < cells.length) (hl : cells.length ≤ 100) {n : Int} {h : Nat} {a b c : T} (B : Lw p σ cells at_ L row w1 w2 w3 w4 ks ts) (hh : σ[h]? = some (.dict kH [a, b, c])) {o : OObj} (hf : σ[fs]? = some o) (hph : p + 15 < h) (hpf : p + 15 < fs) (hne : fs ≠ h) (ha : 0 ≤ at_) (hb : at_ ≤ 98) :
    ∃ (v : Vv) (at' : Int) (σ' : Sg), 0 ≤ at' ∧ at' ≤ at_ + 2 ∧ Lw p σ' cells at' L row w1 w2 w3 w4 ks ts ∧ σ'[h]? = some (.dict (kH ++ (vT v).1) ([a, b, c] ++ (vT v).2)) ∧ σ'[fs]? = some o ∧ stepS (run (m + 78)) lwC (GH xs p fs n h) σ fb1 = some (.next, GH xs p fs n h, σ') := by
  let Γ := GH xs p fs n h
  let C := exOf fb1
  obtain ⟨x, x0, x2, hd⟩ := draw_ok (m + 56) (k := 2) B.tape hc hl ha (by omega) (by decide)
  let σ1 := σ.set p (tapeO cells (at_ + 1))
  have B1 : Lw p σ1 cells (at_ + 1) L row w1 w2 w3 w4 ks ts := B.draw (at_ + 1)
  have h1 : σ1[h]? = some (.dict kH [a, b, c]) := get_other hh (by omega)
  have f1 : σ1[fs]? = some o := get_other hf (by omega)
  have hB : (run (m + 78)).b lwC Γ σ C = some (decide (x = 0), σ1) := by
    refine (b_run (m + 77) lwC Γ σ C).trans ?_
    rw [show ∀ σ, stepB (run (m + 77)) lwC Γ σ C = cmpB (run (m + 77)) lwC Γ σ (cmpOf C).1 [.Eq] [(cmpOf C).2] from fun _ => by kernel_rfl]
    refine cmp_eq (σ₁ := σ1) (by kernel_rfl) ?_ (by kernel_rfl)
    refine (e_run (m + 76) lwC Γ σ (cmpOf C).1).trans ?_
    rw [show ∀ σ, stepE (run (m + 76)) lwC Γ σ (cmpOf C).1 = calE (run (m + 76)) lwC Γ σ (nm "_law_draw") (argsOf (cmpOf C).1) from fun _ => by kernel_rfl]
    exact cal_imp (f := .law_draw) (as := [.own p, .t (.int 2)]) (σ₁ := σ) (by kernel_rfl) rfl (by kernel_rfl) hd
  by_cases e : x = 0
  · rw [decide_eq_true e] at hB
    obtain ⟨v, σ', B', h', f', hx⟩ := fldV (xs := xs) m hc hl (n := n) B1 h1 ⟨a, b, c, rfl⟩ ⟨o, f1⟩ hph hpf hne (by omega) (by omega)
    refine ⟨v, at_ + 1 + 1, σ', by omega, by omega, B', h', f'.trans f1, ?_⟩
    exact s_if (c := C) (a := bodyOf fb1) (b := []) (k := true) (by kernel_rfl) hB hx
  · rw [decide_eq_false e] at hB
    refine ⟨.no, at_ + 1, σ1, by omega, by omega, B1, h1, f1, ?_⟩
    exact s_if (c := C) (a := bodyOf fb1) (b := []) (k := false) (by kernel_rfl) hB rfl

inductive FldT (m : Nat) (xs : List Int) (p fs : Nat) (cells L row w1 w2 w3 w4 : List Int) (at_ : Int) (ks' : List Key) (ts' : Vv → List T) (fl : List T) (i : Nat) (Γ : Ga) (σ : Sg) : Prop
  | mk (v : Vv) (at' : Int) (σ' : Sg) (h : Nat) (b0 : 0 ≤ at') (b1 : at' ≤ at_ + 2) (B : Lw p σ' cells at' L row w1 w2 w3 w4 ks' (ts' v)) (f : σ'[fs]? = some (.list (fl ++ [.int (20 + i)]))) (e : (R0 m).x lwC Γ σ fb = some (.next, GH xs p fs (20 + i) h, σ')) :
    FldT m xs p fs cells L row w1 w2 w3 w4 at_ ks' ts' fl i Γ σ
set_option tactic.hygienic false in
theorem fld_turn (hc : 0 < cells.length) (hl : cells.length ≤ 100) (i : Nat) (hi : i ≤ 2) {fl : List T} (B : Lw p σ cells at_ L row w1 w2 w3 w4 ks ts) (hf : σ[fs]? = some (.list fl)) (hfl : fl.length ≤ 10) (hpf : p + 15 < fs) (ha : 0 ≤ at_) (hb : at_ ≤ 90)
    {ks' : List Key} {ts' : Vv → List T} (hp : ∀ v, putD (.i (20 + i)) (entT i v) ks ts = some (ks', ts' v)) {Γ : Ga} (hΓ : GJ xs p fs (20 + i) Γ) :
    FldT m xs p fs cells L row w1 w2 w3 w4 at_ ks' ts' fl i Γ σ := by
  have hlt := get_lt hf
  let h := σ.length + 2
  let σ0 := σ ++ [OObj.frz (strT (tOf i))] ++ [OObj.frz txT]
  have len : σ0.length = h := by rw [List.length_append, List.length_append]; rfl
  have e0 := fld0 (xs := xs) (fs := fs) (p := p) (σ := σ) m i hi hΓ
  have hh : (σ0 ++ [OObj.dict kH [strT (tOf i), txT, .int 3]])[h]? = some (.dict kH [strT (tOf i), txT, .int 3]) := by
    have := get_new (σ := σ0) (o := .dict kH [strT (tOf i), txT, .int 3])
    rw [len] at this; exact this
  have hph : p + 15 < h := by have := B.lt; omega
  have hne : fs ≠ h := by omega
  obtain ⟨v, at', σ1, a0, a2, B1, h1, f1, e1⟩ := fld1 (xs := xs) m hc hl (n := 20 + i) B.app.app.app hh (get_app (get_app (get_app hf))) hph hpf hne ha (by omega)
  let Γ' := GH xs p fs (20 + i) h
  let E2 := exOf fb2
  let M := mOf (exOf fb3)
  have h1' : σ1[h]? = some (.dict (kH ++ (vT v).1) ([strT (tOf i), txT, .int 3] ++ (vT v).2)) := by
    have := h1; exact this
  have z : frzL σ1 h = some (headT i v) := by rw [headT_eq]; exact frzL_dict h1'
  let σ2 := σ1.set h (.frz (headT i v))
  have B2 : Lw p σ2 cells at' L row w1 w2 w3 w4 ks ts := B1.set hph _
  have f2 : σ2[fs]? = some (.list fl) := get_other f1 hne
  let σ3 := σ2.set (p + 15) (.dict ks' (ts' v))
  have B3 : Lw p σ3 cells at' L row w1 w2 w3 w4 ks' (ts' v) := B2.put _ _
  have f3 : σ3[fs]? = some (.list fl) := get_other f2 (by omega)
  have e2 : stepS (run (m + 78)) lwC Γ' σ1 fb2 = some (.next, Γ', σ3) := by
    refine s_key (o := (tgtOf fb2).1) (k := (tgtOf fb2).2) (e := E2) (v := .t (entT i v)) (i := p + 15) (kt := .int (20 + i)) (q := .i (20 + i)) (t := entT i v) (σ₁ := σ2) (σ₂ := σ2) (by kernel_rfl) ?_ (by kernel_rfl) (by kernel_rfl) rfl rfl B2.ta (hp v)
    refine (e_run (m + 77) lwC Γ' σ1 E2).trans ?_
    rw [show ∀ σ, stepE (run (m + 77)) lwC Γ' σ E2 = tupE (run (m + 77)) lwC Γ' σ [arg E2 0, arg E2 1] from fun _ => by kernel_rfl]
    exact tup_of (vs := [.t (.int 0), .own h]) (ts := [.int 0, headT i v]) (σ₁ := σ1) (by kernel_rfl) (frzs_t (frzs_one (frz_at z))) rfl
  have e3 : stepS (run (m + 78)) lwC Γ' σ3 fb3 = some (.next, Γ', σ3.set fs (.list (fl ++ [.int (20 + i)]))) := by
    refine s_expr (by kernel_rfl) ?_
    refine (e_run (m + 77) lwC Γ' σ3 (exOf fb3)).trans ?_
    rw [show ∀ σ, stepE (run (m + 77)) lwC Γ' σ (exOf fb3) = mthE (run (m + 77)) lwC Γ' σ M.1 M.2.1 M.2.2.1 M.2.2.2.1 M.2.2.2.2 from fun _ => by kernel_rfl]
    exact mth_append (i := fs) (ts := fl) (ts' := fl) (t := .int (20 + i)) (σ₁ := σ3) (by kernel_rfl) (by kernel_rfl) (by kernel_rfl) f3 (by kernel_rfl) f3 (sizeOk_of (by omega))
  refine ⟨v, at', σ3.set fs (.list (fl ++ [.int (20 + i)])), h, a0, a2, B3.set hpf _, get_self f3, ?_⟩
  refine (x_run (m + 78) lwC Γ σ fb).trans ?_
  rw [show fb = [fb0, fb1, fb2, fb3] from by kernel_rfl]
  exact x_next e0 (x_next e1 (x_next e2 (x_next e3 rfl)))

noncomputable def KS (n : Nat) : List Key := .i 10 :: .i 11 :: .i 12 :: .i 13 :: (fldNums n).map .i
noncomputable def TS (vs : List Vv) : List T := ocgT :: ocgT :: ocgT :: ocgT :: entsT 0 vs
/-- after the fields: what stands -/
structure Lf (xs : List Int) (p fs : Nat) (vs : List Vv) (Γ : Ga) (σ : Sg) (cells L row w1 w2 w3 w4 : List Int) : Prop where
  fv : Fv vs
  lw : ∃ a, Lw p σ cells a L row w1 w2 w3 w4 (KS vs.length) (TS vs)
  fl : σ[fs]? = some (.list ((fldNums vs.length).map .int))
  ga : Γ = GA xs p fs ∨ ∃ h, Γ = GHs xs p fs h

set_option tactic.hygienic false in
theorem law11 (hc : 0 < cells.length) (hl : cells.length ≤ 100) (B : Lw p σ cells at_ L row w1 w2 w3 w4 kO [ocgT, ocgT, ocgT, ocgT]) (hf : σ[fs]? = some (.list [])) (hpf : p + 15 < fs) (ha : 0 ≤ at_) (hb : at_ ≤ 20) :
    ∃ (vs : List Vv) (Γ : Ga) (σ' : Sg), Lf xs p fs vs Γ σ' cells L row w1 w2 w3 w4 ∧ stepS (R0 m) lwC (GA xs p fs) σ (st .law 11) = some (.next, Γ, σ') := by
  let s := st .law 11
  let Γ := GA xs p fs
  let I := exOf s
  let a0 := arg I 0
  let a1 := arg I 1
  obtain ⟨x, x0, x4, hd⟩ := draw_ok (m + 57) (k := 4) B.tape hc hl ha (by omega) (by decide)
  let σ1 := σ.set p (tapeO cells (at_ + 1))
  have B1 : Lw p σ1 cells (at_ + 1) L row w1 w2 w3 w4 kO [ocgT, ocgT, ocgT, ocgT] := B.draw (at_ + 1)
  have f1 : σ1[fs]? = some (.list []) := get_other hf (by omega)
  have hev : evs (R0 m) lwC Γ σ [a0, a1] = some ([.t (.int 20), .t (.int (20 + x))], σ1) := by
    refine evs_cons (σ₁ := σ) (by kernel_rfl) (by kernel_rfl) (evs_cons (by kernel_rfl) ?_ rfl)
    refine (e_run (m + 78) lwC Γ σ a1).trans ?_
    rw [show ∀ σ, stepE (run (m + 78)) lwC Γ σ a1 = binE (run (m + 78)) lwC Γ σ (binOf a1).1 .Add (binOf a1).2 from fun _ => by kernel_rfl]
    refine bin_t (x := .int 20) (y := .int x) (σ₁ := σ) (by kernel_rfl) ?_ rfl
    refine (e_run (m + 77) lwC Γ σ (binOf a1).2).trans ?_
    rw [show ∀ σ, stepE (run (m + 77)) lwC Γ σ (binOf a1).2 = calE (run (m + 77)) lwC Γ σ (nm "_law_draw") (argsOf (binOf a1).2) from fun _ => by kernel_rfl]
    exact cal_imp (f := .law_draw) (as := [.own p, .t (.int 4)]) (σ₁ := σ) (by kernel_rfl) rfl (by kernel_rfl) hd
  have hsrc : srcE (R0 m) lwC Γ σ I = some ((List.range ((20 + x) - 20).toNat).map (fun (j : Nat) => T.int (20 + (j : Int))), σ1) := by
    rw [show srcE (R0 m) lwC Γ σ I = (match evs (R0 m) lwC Γ σ [a0, a1] with
      | some (as, σ) => (rangeL as).map fun l => (l, σ)
      | none => none) from by kernel_rfl, hev]
    have h : rangeL [.t (.int 20), .t (.int (20 + x))] = some ((List.range ((20 + x) - 20).toNat).map (fun (j : Nat) => T.int (20 + (j : Int)))) := if_pos (by rw [intOk_of (by omega) (by omega), intOk_of (by omega) (by omega)]; rfl)
    dsimp only; rw [h]; rfl
  have fin : ∀ (n : Nat) (vs : List Vv) (Γ' : Ga) (σ' : Sg), (20 + x - 20).toNat = n → Lf xs p fs vs Γ' σ' cells L row w1 w2 w3 w4 → forL (R0 m) lwC (tgOf s) fb Γ σ1 ((List.range n).map (fun (j : Nat) => T.int (20 + (j : Int)))) = some (.next, Γ', σ') →
      ∃ (vs : List Vv) (Γ : Ga) (σ' : Sg), Lf xs p fs vs Γ σ' cells L row w1 w2 w3 w4 ∧ stepS (R0 m) lwC (GA xs p fs) σ (st .law 11) = some (.next, Γ, σ') := by
    intro n vs Γ' σ' hn K hfor
    refine ⟨vs, Γ', σ', K, ?_⟩
    rw [hn] at hsrc
    exact s_for (tg := tgOf s) (it := I) (body := fb) (by kernel_rfl) hsrc hfor
  have hx : x = 0 ∨ x = 1 ∨ x = 2 ∨ x = 3 := by omega
  rcases hx with rfl | rfl | rfl | rfl
  · exact fin 0 [] _ _ rfl ⟨.n0, ⟨_, B1⟩, f1, .inl rfl⟩ (for_nil.trans (by kernel_rfl))
  · obtain ⟨v1, t1, σ2, g1, b0, b1, B2, f2, e1⟩ := fld_turn (xs := xs) m hc hl 0 (by decide) B1 f1 (by decide) hpf (by omega) (by omega) (ks' := KS 1) (ts' := fun v => TS [v]) (fun v => by kernel_rfl) (.inl rfl)
    exact fin 1 [v1] _ _ rfl ⟨.n1 _, ⟨_, B2⟩, f2, .inr ⟨g1, rfl⟩⟩ (for_cons (by kernel_rfl) e1 (for_nil.trans (by kernel_rfl)))
  · obtain ⟨v1, t1, σ2, g1, b0, b1, B2, f2, e1⟩ := fld_turn (xs := xs) m hc hl 0 (by decide) B1 f1 (by decide) hpf (by omega) (by omega) (ks' := KS 1) (ts' := fun v => TS [v]) (fun v => by kernel_rfl) (.inl rfl)
    obtain ⟨v2, t2, σ3, g2, c0, c1, B3, f3, e2⟩ := fld_turn (xs := xs) m hc hl 1 (by decide) B2 f2 (by decide) hpf (by omega) (by omega) (ks' := KS 2) (ts' := fun v => TS [v1, v]) (fun v => by kernel_rfl) (.inr ⟨g1, rfl⟩)
    exact fin 2 [v1, v2] _ _ rfl ⟨.n2 _ _, ⟨_, B3⟩, f3, .inr ⟨g2, rfl⟩⟩ (for_cons (by kernel_rfl) e1 (for_cons (by kernel_rfl) e2 (for_nil.trans (by kernel_rfl))))
  · obtain ⟨v1, t1, σ2, g1, b0, b1, B2, f2, e1⟩ := fld_turn (xs := xs) m hc hl 0 (by decide) B1 f1 (by decide) hpf (by omega) (by omega) (ks' := KS 1) (ts' := fun v => TS [v]) (fun v => by kernel_rfl) (.inl rfl)
    obtain ⟨v2, t2, σ3, g2, c0, c1, B3, f3, e2⟩ := fld_turn (xs := xs) m hc hl 1 (by decide) B2 f2 (by decide) hpf (by omega) (by omega) (ks' := KS 2) (ts' := fun v => TS [v1, v]) (fun v => by kernel_rfl) (.inr ⟨g1, rfl⟩)
    obtain ⟨v3, t3, σ4, g3, d0, d1, B4, f4, e3⟩ := fld_turn (xs := xs) m hc hl 2 (by decide) B3 f3 (by decide) hpf (by omega) (by omega) (ks' := KS 3) (ts' := fun v => TS [v1, v2, v]) (fun v => by kernel_rfl) (.inr ⟨g2, rfl⟩)
    exact fin 3 [v1, v2, v3] _ _ rfl ⟨.n3 _ _ _, ⟨_, B4⟩, f4, .inr ⟨g3, rfl⟩⟩ (for_cons (by kernel_rfl) e1 (for_cons (by kernel_rfl) e2 (for_cons (by kernel_rfl) e3 (for_nil.trans (by kernel_rfl)))))
end
end Mine
end
section
set_option maxRecDepth 100000
set_option autoImplicit false
namespace Mine
open PySem

noncomputable def hdL : Option Nat → Ga
  | none => []
  | some h => [(nm "head", .own h)]
noncomputable def GX (xs : List Int) (p fs : Nat) (hd : Option Nat) : Ga := GA xs p fs ++ hdL hd
set_option tactic.hygienic false in
theorem frefs_ok (m : Nat) {n : Nat} (h : n ≤ 3) : callT (run (m + 12)) .law_refs [intsT (fldNums n)] = some (refsT (fldNums n)) := by
  rcases n with _ | _ | _ | _ | n <;> first | kernel_rfl | omega
/-- what stands when all is built -/
structure Fn (p sh : Nat) (σ : Sg) (L row w1 w2 w3 w4 : List Int) (S : T) : Prop where
  li : frzL σ (p + 2) = some (intsT L)
  so : frzL σ (p + 3) = some (.dict kW [intsT w1, intsT w2, intsT w3, intsT w4])
  ro : frzL σ (p + 8) = some (intsT row)
  sv : σ[sh]? = some (.frz S)
  lt : p + 15 < sh
section
variable {p sh : Nat} {σ τ : Sg} {L row w1 w2 w3 w4 : List Int} {S : T}
theorem Fn.app (F : Fn p sh σ L row w1 w2 w3 w4 S) : Fn p sh (σ ++ τ) L row w1 w2 w3 w4 S := ⟨frzL_app F.li, frzL_app F.so, frzL_app F.ro, get_app F.sv, F.lt⟩
theorem Fn.set (F : Fn p sh σ L row w1 w2 w3 w4 S) {j : Nat} (h : sh < j) (o : OObj) : Fn p sh (σ.set j o) L row w1 w2 w3 w4 S :=
  ⟨frzL_other F.li (by have := F.lt; omega), frzL_other F.so (by have := F.lt; omega), frzL_other F.ro (by have := F.lt; omega), get_other F.sv (by omega), F.lt⟩
theorem Fn.fli (F : Fn p sh σ L row w1 w2 w3 w4 S) : Fn p sh (σ.set (p + 2) (.frz (intsT L))) L row w1 w2 w3 w4 S :=
  ⟨frzL_frz (by rw [List.getElem?_set_self (frzL_lt F.li)]), frzL_other F.so (by omega), frzL_other F.ro (by omega), get_other F.sv (by have := F.lt; omega), F.lt⟩
theorem Fn.fro (F : Fn p sh σ L row w1 w2 w3 w4 S) : Fn p sh (σ.set (p + 8) (.frz (intsT row))) L row w1 w2 w3 w4 S :=
  ⟨frzL_other F.li (by omega), frzL_other F.so (by omega), frzL_frz (by rw [List.getElem?_set_self (frzL_lt F.ro)]), get_other F.sv (by have := F.lt; omega), F.lt⟩
end

set_option tactic.hygienic false in
theorem ref_init (m : Nat) (σ : Sg) (a b : Int) : (run (m + 10)).c .refInit [.own σ.length, .t (.int a), .t (.int b)] (σ ++ [.inst .Reference [] []]) = some (.t .none, σ ++ [.inst .Reference [nm "number", nm "generation"] ([.int a, .int b].map .t)]) := by
  let Γ : Ga := [(nm "self", .own σ.length), (nm "number", .t (.int a)), (nm "generation", .t (.int b))]
  let s := st .refInit 0
  let s1 := st .refInit 1
  let o (s : Stmt) := match s with
    | .Assign [.Attribute o _ _] _ _ => o
    | _ => noE
  refine stepC_none (R := run (m + 9)) (b := [s, s1]) (Γ₁ := Γ) (by kernel_rfl) (by kernel_rfl) rfl ?_
  have e := s_attr (R := run (m + 9)) (cx := ⟨FN.refInit.names⟩) (Γ := Γ) (σ := σ ++ [.inst .Reference [] []]) (s := s) (o := o s) (e := exOf s) (n := nm "number") (v := .t (.int a)) (i := σ.length) (ns' := [nm "number"]) (vs' := [.t (.int a)]) (by kernel_rfl) (by kernel_rfl) (by kernel_rfl) get_new (by kernel_rfl) (by kernel_rfl)
  have e1 := s_attr (R := run (m + 9)) (cx := ⟨FN.refInit.names⟩) (Γ := Γ) (σ := σ ++ [.inst .Reference [nm "number"] [.t (.int a)]]) (s := s1) (o := o s1) (e := exOf s1) (n := nm "generation") (v := .t (.int b)) (i := σ.length) (ns' := [nm "number", nm "generation"]) (vs' := [.t (.int a), .t (.int b)]) (by kernel_rfl) (by kernel_rfl) (by kernel_rfl) get_new (by kernel_rfl) (by kernel_rfl)
  rw [set_new] at e e1
  exact x_next e (x_next e1 rfl)
set_option tactic.hygienic false in
theorem shelf_init (m : Nat) (σ : Sg) (a b : Nat) : (run (m + 20)).c .lookupInit [.own σ.length, .own a, .own b] (σ ++ [.inst .Shelf [] []]) = some (.t .none, σ ++ [.inst .Shelf [nm "table", nm "trailer"] [.own a, .own b]]) := by
  let Γ : Ga := [(nm "self", .own σ.length), (nm "table", .own a), (nm "trailer", .own b)]
  let s := st .lookupInit 0
  let s1 := st .lookupInit 1
  let o (s : Stmt) := match s with
    | .Assign [.Attribute o _ _] _ _ => o
    | _ => noE
  refine stepC_none (R := run (m + 19)) (b := [s, s1]) (Γ₁ := Γ) (by kernel_rfl) (by kernel_rfl) rfl ?_
  have e := s_attr (R := run (m + 19)) (cx := ⟨FN.lookupInit.names⟩) (Γ := Γ) (σ := σ ++ [.inst .Shelf [] []]) (s := s) (o := o s) (e := exOf s) (n := nm "table") (v := .own a) (i := σ.length) (ns' := [nm "table"]) (vs' := [.own a]) (by kernel_rfl) (by kernel_rfl) (by kernel_rfl) get_new (by kernel_rfl) (by kernel_rfl)
  have e1 := s_attr (R := run (m + 19)) (cx := ⟨FN.lookupInit.names⟩) (Γ := Γ) (σ := σ ++ [.inst .Shelf [nm "table"] [.own a]]) (s := s1) (o := o s1) (e := exOf s1) (n := nm "trailer") (v := .own b) (i := σ.length) (ns' := [nm "table", nm "trailer"]) (vs' := [.own a, .own b]) (by kernel_rfl) (by kernel_rfl) (by kernel_rfl) get_new (by kernel_rfl) (by kernel_rfl)
  rw [set_new] at e e1
  exact x_next e (x_next e1 rfl)

noncomputable def GY (xs : List Int) (p fs : Nat) (hd : Option Nat) (sh : Nat) (r : List T) : Ga := GX xs p fs hd ++ [(nm "shelf", .own sh), (nm "before", .t (.tup r))]
set_option tactic.hygienic false in
theorem law_b (m : Nat) {xs : List Int} {p fs : Nat} {vs : List Vv} {Γ : Ga} {σ : Sg} {cells L row w1 w2 w3 w4 : List Int} (K : Lf xs p fs vs Γ σ cells L row w1 w2 w3 w4) (hpf : p + 15 < fs) {r : List T} (hr : ∀ m, callT (run (m + 70)) .shelfTold [shL L row w1 w2 w3 w4 (entsT 0 vs)] = some (.tup r)) :
    ∃ (hd : Option Nat) (sh : Nat) (σ' : Sg), Fn p sh σ' L row w1 w2 w3 w4 (shL L row w1 w2 w3 w4 (entsT 0 vs)) ∧
      ∀ rest, stepX (R0 m) lwC Γ σ (st .law 12 :: st .law 13 :: st .law 14 :: st .law 15 :: rest) = stepX (R0 m) lwC (GY xs p fs hd sh r) σ' rest := by
  obtain ⟨hv, ⟨a, B⟩, hfl, hΓ⟩ := K
  obtain ⟨hd, rfl⟩ : ∃ hd, Γ = GX xs p fs hd := by
    rcases hΓ with rfl | ⟨h, rfl⟩
    · exact ⟨none, (List.append_nil _).symm⟩
    · exact ⟨some h, rfl⟩
  have hn : vs.length ≤ 3 := by cases hv <;> simp
  let Γ := GX xs p fs hd
  -- 12
  let s12 := st .law 12
  let E12 := exOf s12
  let F := refsT (fldNums vs.length)
  let D12 : T := .dict [.s (nm "Fields")] [F]
  let σ1 := σ.set fs (.frz (intsT (fldNums vs.length)))
  let σ2 := σ1 ++ [OObj.frz D12]
  have B1 : Lw p σ1 cells a L row w1 w2 w3 w4 (KS vs.length) (TS vs) := B.set hpf _
  let RT : T := rootT (refsT L) (fstT row w1 w2 w3 w4) vs.length
  let kA : List Key := kR ++ [.s (nm "AcroForm")]
  let σ3 := σ2.set (p + 14) (.dict kA [catT, .dict kP [refsT L, fstT row w1 w2 w3 w4], D12])
  have e12 : stepS (R0 m) lwC Γ σ s12 = some (.next, Γ, σ3) := by
    refine s_key (o := (tgtOf s12).1) (k := (tgtOf s12).2) (e := E12) (v := .own σ1.length) (i := p + 14) (kt := .str (nm "AcroForm")) (q := .s (nm "AcroForm")) (t := D12) (σ₁ := σ1 ++ [OObj.dict [.s (nm "Fields")] [F]]) (σ₂ := σ2) (by kernel_rfl) ?_ (by cases hd <;> kernel_rfl) (by kernel_rfl) rfl (frz_dict ..) (get_app B1.rt) (by kernel_rfl)
    refine (e_run (m + 78) lwC Γ σ E12).trans ?_
    rw [show ∀ σ, stepE (run (m + 78)) lwC Γ σ E12 = dctE (run (m + 78)) lwC Γ σ [some (((kvOf E12).1[0]?.getD none).getD noE)] [(kvOf E12).2[0]?.getD noE] from fun _ => by kernel_rfl]
    refine dct_of rfl (l := [(.s (nm "Fields"), F)]) (dictE_cons (kt := .str (nm "Fields")) (a := .t F) (σ₁ := σ1) (by kernel_rfl) rfl ?_ rfl rfl) (by kernel_rfl)
    refine (e_run (m + 77) lwC Γ σ ((kvOf E12).2[0]?.getD noE)).trans ?_
    rw [show ∀ σ, stepE (run (m + 77)) lwC Γ σ ((kvOf E12).2[0]?.getD noE) = calE (run (m + 77)) lwC Γ σ (nm "_law_refs") (argsOf ((kvOf E12).2[0]?.getD noE)) from fun _ => by kernel_rfl]
    exact cal_pure (f := .law_refs) (as := [.own fs]) (ts := [intsT (fldNums vs.length)]) (σ₁ := σ) (by kernel_rfl) rfl (by cases hd <;> kernel_rfl) (frzs_one (frz_at (frzL_list hfl))) (frefs_ok (m + 65) hn)
  -- 13
  have hlt := B.lt
  have g3 : σ3[p + 14]? = some (.dict kA [catT, .dict kP [refsT L, fstT row w1 w2 w3 w4], D12]) := get_self (get_app B1.rt)
  let s13 := st .law 13
  let E13 := exOf s13
  let σ4 := σ3.set (p + 14) (.frz RT)
  have t4 : σ4[p + 15]? = some (.dict (KS vs.length) (TS vs)) := get_other (get_other (get_app B1.ta) (by omega)) (by omega)
  let ks : List Key := .i 10 :: .i 11 :: .i 12 :: .i 13 :: ((fldNums (entsT 0 vs).length).map Key.i ++ [.i 1])
  let ts : List T := ocgT :: ocgT :: ocgT :: ocgT :: (entsT 0 vs ++ [.tup [.int 0, RT]])
  let σ5 := σ4.set (p + 15) (.dict ks ts)
  have e13 : stepS (R0 m) lwC Γ σ3 s13 = some (.next, Γ, σ5) := by
    refine s_key (o := (tgtOf s13).1) (k := (tgtOf s13).2) (e := E13) (v := .t (.tup [.int 0, RT])) (i := p + 15) (kt := .int 1) (q := .i 1) (t := .tup [.int 0, RT]) (σ₁ := σ4) (σ₂ := σ4) (by kernel_rfl) ?_ (by cases hd <;> kernel_rfl) (by kernel_rfl) rfl rfl t4 (by cases hv <;> kernel_rfl)
    refine (e_run (m + 78) lwC Γ σ3 E13).trans ?_
    rw [show ∀ σ, stepE (run (m + 78)) lwC Γ σ E13 = tupE (run (m + 78)) lwC Γ σ [arg E13 0, arg E13 1] from fun _ => by kernel_rfl]
    exact tup_of (vs := [.t (.int 0), .own (p + 14)]) (ts := [.int 0, RT]) (σ₁ := σ3) (by cases hd <;> kernel_rfl) (frzs_t (frzs_one (frz_at (frzL_dict g3)))) rfl
  have t5 : σ5[p + 15]? = some (.dict ks ts) := get_self t4
  -- 14
  let s14 := st .law 14
  let E14 := exOf s14
  let d14 := arg E14 1
  let j := (σ5 ++ [OObj.frz (refT 1)]).length
  let σ6 := σ5 ++ [OObj.frz (refT 1)] ++ [OObj.dict [.s (nm "Root")] [refT 1]]
  let sh := σ6.length
  let σ7 := σ6 ++ [OObj.inst .Shelf [nm "table", nm "trailer"] [.own (p + 15), .own j]]
  have e14 : stepS (R0 m) lwC Γ σ5 s14 = some (.next, Γ ++ [(nm "shelf", .own sh)], σ7) := by
    refine s_asg (x := nm "shelf") (e := E14) (v := .own sh) (by kernel_rfl) (by kernel_rfl) ?_ (by cases hd <;> kernel_rfl)
    refine (e_run (m + 78) lwC Γ σ5 E14).trans ?_
    rw [show ∀ σ, stepE (run (m + 78)) lwC Γ σ E14 = calE (run (m + 78)) lwC Γ σ (nm "Shelf") [arg E14 0, d14] from fun _ => by kernel_rfl]
    refine cls_new (c := .Shelf) (f := .lookupInit) (as := [.own (p + 15), .own j]) (σ₁ := σ6) (by kernel_rfl) rfl (evs_cons (σ₁ := σ5) (by kernel_rfl) (by cases hd <;> kernel_rfl) (evs_cons (by kernel_rfl) ?_ rfl)) (shelf_init (m + 58) σ6 (p + 15) j)
    refine (e_run (m + 77) lwC Γ σ5 d14).trans ?_
    rw [show ∀ σ, stepE (run (m + 77)) lwC Γ σ d14 = dctE (run (m + 77)) lwC Γ σ [some (((kvOf d14).1[0]?.getD none).getD noE)] [(kvOf d14).2[0]?.getD noE] from fun _ => by kernel_rfl]
    refine dct_of rfl (l := [(.s (nm "Root"), refT 1)]) (dictE_cons (kt := .str (nm "Root")) (a := .own σ5.length) (by kernel_rfl) rfl ?_ (frz_inst [.int 1, .int 0]) rfl) (by kernel_rfl)
    refine (e_run (m + 76) lwC Γ σ5 ((kvOf d14).2[0]?.getD noE)).trans ?_
    rw [show ∀ σ, stepE (run (m + 76)) lwC Γ σ ((kvOf d14).2[0]?.getD noE) = calE (run (m + 76)) lwC Γ σ (nm "Reference") (argsOf ((kvOf d14).2[0]?.getD noE)) from fun _ => by kernel_rfl]
    exact cls_new (c := .Reference) (f := .refInit) (as := [.t (.int 1), .t (.int 0)]) (σ₁ := σ5) (by kernel_rfl) rfl (by kernel_rfl) (ref_init (m + 66) σ5 1 0)
  -- 15
  have g7 : σ7[sh]? = some (.inst .Shelf [nm "table", nm "trailer"] [.own (p + 15), .own j]) := get_new
  have hl5 : p + 15 < σ5.length := get_lt t5
  have hj : j = σ5.length + 1 := List.length_append
  have hsh : sh = j + 1 := List.length_append
  have t7 : frzL σ7 (p + 15) = some (.dict ks ts) := frzL_app (frzL_app (frzL_app (frzL_dict t5)))
  let σ8 := σ7.set (p + 15) (.frz (.dict ks ts))
  have j7 : frzL σ8 j = some trailT := frzL_other (frzL_app (frzL_dict get_new)) (by omega)
  let σ9 := σ8.set j (.frz trailT)
  have s9 : σ9[sh]? = some (.inst .Shelf [nm "table", nm "trailer"] [.own (p + 15), .own j]) := get_other (get_other g7 (by omega)) (by omega)
  let S : T := shL L row w1 w2 w3 w4 (entsT 0 vs)
  let σ10 := σ9.set sh (.frz S)
  have hS : shS ks ts trailT = S := by cases hv <;> rfl
  have hz : frz σ7 (.own sh) = some (S, σ10) := by
    have a1 : frzV1 σ7 (.own (p + 15)) = some (.dict ks ts, σ8) := by simp only [frzV1, t7]; rfl
    have a2 : frzV1 σ8 (.own j) = some (trailT, σ9) := by simp only [frzV1, j7]; rfl
    have a3 : frzVs σ7 [.own (p + 15), .own j] = some ([.dict ks ts, trailT], σ9) := by simp only [frzVs, a1, a2]
    simp only [frz, g7, a3, s9]
    show some (shS ks ts trailT, σ9.set sh (.frz (shS ks ts trailT))) = _
    rw [hS]
  let s15 := st .law 15
  let E15 := exOf s15
  let M := mOf E15
  have e15 : stepS (R0 m) lwC (Γ ++ [(nm "shelf", .own sh)]) σ7 s15 = some (.next, GY xs p fs hd sh r, σ10) := by
    refine s_asg (x := nm "before") (e := E15) (v := .t (.tup r)) (by kernel_rfl) (by kernel_rfl) ?_ (by cases hd <;> kernel_rfl)
    refine (e_run (m + 78) lwC (Γ ++ [(nm "shelf", .own sh)]) σ7 E15).trans ?_
    rw [show ∀ Γ σ, stepE (run (m + 78)) lwC Γ σ E15 = mthE (run (m + 78)) lwC Γ σ M.1 M.2.1 M.2.2.1 M.2.2.2.1 M.2.2.2.2 from fun _ _ => by kernel_rfl]
    refine mth_def (c := .Shelf) (f := .shelfTold) (v := .own sh) (as := []) (ts := [S]) (σ₁ := σ7) (σ₂ := σ7) (by kernel_rfl) (by cases hd <;> kernel_rfl) ?_ (by kernel_rfl) ?_ (by kernel_rfl) rfl (frzs_one hz) (hr (m + 8))
    · simp only [clsOf, g7]
    · rw [noFld_own, g7]; kernel_rfl
  refine ⟨hd, sh, σ10, ⟨?_, ?_, ?_, get_self s9, by omega⟩, fun rest => (x_next' e12).trans ((x_next' e13).trans ((x_next' e14).trans (x_next' e15)))⟩
  · exact frzL_other (frzL_other (frzL_other (frzL_app (frzL_app (frzL_app (frzL_other (frzL_other (frzL_other (frzL_app B1.li) (by omega)) (by omega)) (by omega))))) (by omega)) (by omega)) (by omega)
  · exact frzL_other (frzL_other (frzL_other (frzL_app (frzL_app (frzL_app (frzL_other (frzL_other (frzL_other (frzL_app B1.so) (by omega)) (by omega)) (by omega))))) (by omega)) (by omega)) (by omega)
  · exact frzL_other (frzL_other (frzL_other (frzL_app (frzL_app (frzL_app (frzL_other (frzL_other (frzL_other (frzL_app B1.ro) (by omega)) (by omega)) (by omega))))) (by omega)) (by omega)) (by omega)
end Mine
end
section
set_option maxRecDepth 100000
set_option autoImplicit false
namespace Mine
open PySem

theorem intsOf_map : ∀ l : List Int, intsOf (l.map .int) = some l
  | [] => rfl
  | n :: r => by
    show (intsOf (r.map .int)).map (n :: ·) = _
    rw [intsOf_map r]; rfl
set_option tactic.hygienic false in
theorem memInts_eq (n : Int) : ∀ l : List Int, memInts n l = l.contains n
  | [] => rfl
  | a :: r => by
    unfold memInts
    rw [List.contains_cons]
    by_cases h : a = n
    · subst h; simp
    · rw [decide_eq_false h]
      have : (n == a) = false := by simpa using fun e : n = a => h e.symm
      rw [this, Bool.false_or]
      exact memInts_eq n r
section
variable {R : Rec} {cx : Cx} {Γ Γ' Γ₁ : Ga} {σ σ₁ σ₂ σ₃ : Sg}
set_option tactic.hygienic false in
theorem inT_ints (n : Int) (w : List Int) : inT (.int n) (intsT w) = some (w.contains n) := by
  have e : inT (.int n) (intsT w) = (match T.int n, intsOf (w.map .int) with
    | .int n, some l => some (memInts n l)
    | _, _ => none) := rfl
  rw [e, intsOf_map]
  exact congrArg some (memInts_eq ..)
set_option tactic.hygienic false in
theorem cmpA_in {a b : AV} {x y : T} (h1 : look σ a = some x) (h2 : look σ b = some y) : cmpA .In σ a b = inT x y := by
  have e : cmpA .In σ a b = (match look σ a, look σ b with
    | some x, some y => inT x y
    | _, _ => none) := rfl
  rw [e, h1, h2]
set_option tactic.hygienic false in
theorem cmpA_notin {a b : AV} {x y : T} (h1 : look σ a = some x) (h2 : look σ b = some y) : cmpA .NotIn σ a b = (inT x y).map (!·) := by
  have e : cmpA .NotIn σ a b = (match look σ a, look σ b with
    | some x, some y => (inT x y).map (!·)
    | _, _ => none) := rfl
  rw [e, h1, h2]
set_option tactic.hygienic false in
theorem cmp_in {l c : Expr} {n : Int} {v : AV} {w : List Int} (hs : notSet c = true) (h1 : R.e cx Γ σ l = some (.t (.int n), σ)) (h2 : R.e cx Γ σ c = some (v, σ)) (hv : look σ v = some (intsT w)) : cmpB R cx Γ σ l [.In] [c] = some (w.contains n, σ) := by
  have e : look σ (.t (.int n)) = some (.int n) := rfl
  refine cmp_one hs h1 h2 ?_
  exact (cmpA_in e hv).trans (inT_ints n w)
set_option tactic.hygienic false in
theorem cmp_notin {l c : Expr} {n : Int} {v : AV} {w : List Int} (hs : notSet c = true) (h1 : R.e cx Γ σ l = some (.t (.int n), σ)) (h2 : R.e cx Γ σ c = some (v, σ)) (hv : look σ v = some (intsT w)) : cmpB R cx Γ σ l [.NotIn] [c] = some (!w.contains n, σ) := by
  have e : look σ (.t (.int n)) = some (.int n) := rfl
  refine cmp_one hs h1 h2 ?_
  exact (cmpA_notin e hv).trans (by rw [inT_ints]; rfl)
/-- a comprehension over ints, with a test that changes nothing -/
theorem comp_test {tg elt I : Expr} (J : Ga → Prop) (G : Int → Ga) (q : Int → Bool) (t : Int → T) (hG : ∀ n, J (G n)) (hb : ∀ n Γ, J Γ → bindT cx tg (.int n) Γ = some (G n)) :
    ∀ (l : List Int) (_ : ∀ n ∈ l, R.b cx (G n) σ I = some (q n, σ)) (_ : ∀ n ∈ l, q n = true → R.e cx (G n) σ elt = some (.t (t n), σ)) (Γ : Ga), J Γ → compL R cx tg elt [I] Γ σ (l.map .int) = some ((l.filter q).map t, σ)
  | [], _, _, _, _ => rfl
  | n :: l, h1, h2, Γ, hJ => by
    have ih := comp_test J G q t hG hb l (fun x hx => h1 x (.tail _ hx)) (fun x hx => h2 x (.tail _ hx)) (G n) (hG n)
    have a := h1 n (.head _)
    rw [List.map_cons]
    cases hq : q n with
    | true =>
      rw [hq] at a
      rw [List.filter_cons_of_pos hq, List.map_cons]
      exact comp_cons (hb n Γ hJ) (ands_b a) (h2 n (.head _) hq) rfl ih
    | false =>
      rw [hq] at a
      rw [List.filter_cons_of_neg (by rw [hq]; decide)]
      simp only [compL, hb n Γ hJ, andsB, a]
      exact ih
end
set_option tactic.hygienic false in
theorem tl_filter (L : List Int) (W : Str) : ∀ w : List Int, strsT (tl L W w) = (w.filter fun n => !L.contains n).map fun n => T.str (tells W n)
  | [] => rfl
  | n :: w => by
    have ih := tl_filter L W w
    have e : strsT (tl L W (n :: w)) = strsT (tellS L W n) ++ strsT (tl L W w) := by unfold tl strsT; rw [List.flatMap_cons, List.map_append]
    rw [e, ih]
    unfold tellS
    cases h : L.contains n with
    | true => rw [List.filter_cons_of_neg (by rw [h]; decide)]; rfl
    | false => rw [List.filter_cons_of_pos (by rw [h]; decide)]; rfl

section
variable (m : Nat) {xs : List Int} {p fs : Nat} {hd : Option Nat} {sh : Nat} {r : List T} {σ : Sg} {L row w1 w2 w3 w4 : List Int} {S : T}
noncomputable def GD (xs : List Int) (p fs : Nat) (hd : Option Nat) (sh : Nat) (r : List T) (du : Nat) : Ga := GY xs p fs hd sh r ++ [(nm "due", .own du)]
noncomputable def GW (xs : List Int) (p fs : Nat) (hd : Option Nat) (sh : Nat) (r : List T) (du : Nat) (W : Str) : Ga := GD xs p fs hd sh r du ++ [(nm "word", .t (.str W))]

/-! 17: a word's lines -/
noncomputable def l17 : Stmt := nth (bodyOf (st .law 17)) 0
noncomputable def M17 : Expr × Str × Pos × List Expr × Pos := mOf (exOf l17)
noncomputable def C17 : Expr := (M17.2.2.2.1[0]?).getD noE
noncomputable def g17 : Expr × Expr × List Expr × Scope := genOf C17
noncomputable def I17 : Expr := (g17.2.2.1[0]?).getD noE
noncomputable def c17 (p : Nat) (W : Str) : Ga := [(nm "listed", .own (p + 2)), (nm "word", .t (.str W))]
noncomputable def J17 (p : Nat) (W : Str) (Γ : Ga) : Prop := Γ = c17 p W ∨ ∃ v, Γ = c17 p W ++ [(nm "number", v)]
set_option tactic.hygienic false in
theorem due_word {du : Nat} {acc : List Str} (F : Fn p sh σ L row w1 w2 w3 w4 S) (hd_ : σ[du]? = some (.list (strsT acc))) (hdu : sh < du) (ha : acc.length ≤ 100) {W : Str} (hW : Wd W) {w : List Int} (hw : w ∈ ws) (hi : itemT (.dict kW [intsT w1, intsT w2, intsT w3, intsT w4]) (.str W) = some (intsT w)) :
    ∃ σ', Fn p sh σ' L row w1 w2 w3 w4 S ∧ σ'[du]? = some (.list (strsT (acc ++ tl L W w))) ∧ (R0 m).x lwC (GW xs p fs hd sh r du W) σ (bodyOf (st .law 17)) = some (.next, GW xs p fs hd sh r du W, σ') := by
  let Γ := GW xs p fs hd sh r du W
  let us := strsT (tl L W w)
  have hlw := ws_len hw
  have hul : us.length ≤ 4 := by show (strsT (tl L W w)).length ≤ 4; unfold strsT; rw [List.length_map]; exact Nat.le_trans (tl_len ..) hlw
  have hacc : (strsT acc).length = acc.length := List.length_map ..
  have hlen := get_lt hd_
  let σ1 := σ ++ [OObj.list us]
  let σ2 := σ ++ [OObj.frz (.list us)]
  refine ⟨σ2.set du (.list (strsT acc ++ us)), F.app.set hdu _, ?_, ?_⟩
  · have e : strsT (acc ++ tl L W w) = strsT acc ++ us := List.map_append
    rw [e]; exact get_self (get_app hd_)
  refine (x_run (m + 78) _ _ _ _).trans ?_
  rw [show bodyOf (st .law 17) = [l17] from by kernel_rfl]
  refine x_next (s_expr (by kernel_rfl) ?_) rfl
  refine (e_run (m + 77) _ _ _ _).trans ?_
  rw [show ∀ σ, stepE (run (m + 77)) lwC Γ σ (exOf l17) = mthE (run (m + 77)) lwC Γ σ M17.1 M17.2.1 M17.2.2.1 [C17] M17.2.2.2.2 from fun _ => by kernel_rfl]
  refine mth_extend (i := du) (ts := strsT acc) (ts' := strsT acc) (us := us) (v := .own σ.length) (σ₁ := σ1) (σ₂ := σ2) (by kernel_rfl) (by kernel_rfl) (by cases hd <;> kernel_rfl) hd_ (evs_cons (by kernel_rfl) ?_ rfl) (frz_list us) (get_app hd_) (sizeOk_of (by omega))
  refine (e_run (m + 76) _ _ _ _).trans ?_
  rw [show ∀ σ, stepE (run (m + 76)) lwC Γ σ C17 = lcE (run (m + 76)) lwC Γ σ (eltOf C17) g17.1 g17.2.1 g17.2.2.1 g17.2.2.2 from fun _ => by kernel_rfl]
  refine lc_e (comp_e (vs := w.map .int) (σ₁ := σ) (by kernel_rfl) (src_call (v := .t (intsT w)) (σ₁ := σ) (by kernel_rfl) ?_ rfl rfl) (Nat.ble_eq_true_of_le (by rw [List.length_map]; omega)) ?_)
  · let B := subOf g17.2.1
    refine (e_run (m + 75) _ _ _ _).trans ?_
    rw [show ∀ σ, stepE (run (m + 75)) lwC Γ σ g17.2.1 = sbsE (run (m + 75)) lwC Γ σ B.1 B.2 from fun _ => by kernel_rfl]
    exact sbs_look (v := .own (p + 3)) (k := .str W) (by kernel_rfl) (by cases hd <;> kernel_rfl) (by cases hd <;> kernel_rfl) F.so hi
  · have hs : us = (w.filter fun n => !L.contains n).map fun n => T.str (tells W n) := tl_filter L W w
    rw [hs, show freeOf g17.2.2.2.names Γ = c17 p W from by cases hd <;> kernel_rfl, show g17.2.2.1 = [I17] from by kernel_rfl]
    let G : Int → Ga := fun n => c17 p W ++ [(nm "number", .t (.int n))]
    refine comp_test (J17 p W) G (fun n => !L.contains n) (fun n => T.str (tells W n)) (fun n => .inr ⟨_, rfl⟩) ?_ w ?_ ?_ (c17 p W) (.inl rfl)
    · intro n Γ' hJ
      rcases hJ with rfl | ⟨v, rfl⟩ <;> kernel_rfl
    · intro n hn
      refine (b_run (m + 75) _ _ _ _).trans ?_
      rw [show ∀ σ, stepB (run (m + 75)) ⟨g17.2.2.2.names⟩ (G n) σ I17 = cmpB (run (m + 75)) ⟨g17.2.2.2.names⟩ (G n) σ (cmpOf I17).1 [.NotIn] [(cmpOf I17).2] from fun _ => by kernel_rfl]
      exact cmp_notin (v := .own (p + 2)) (by kernel_rfl) (by kernel_rfl) (by kernel_rfl) F.li
    · intro n hn _
      have e := ws_nm hw n hn
      cases hW <;> cases e <;> kernel_rfl

set_option tactic.hygienic false in
theorem law17 {du : Nat} (F : Fn p sh σ L row w1 w2 w3 w4 S) (hd_ : σ[du]? = some (.list [])) (hdu : sh < du) (h1 : w1 ∈ ws) (h2 : w2 ∈ ws) (h3 : w3 ∈ ws) :
    ∃ σ', Fn p sh σ' L row w1 w2 w3 w4 S ∧ σ'[du]? = some (.list (strsT (tl L wON w1 ++ tl L wOFF w2 ++ tl L wLK w3))) ∧ stepS (R0 m) lwC (GD xs p fs hd sh r du) σ (st .law 17) = some (.next, GD xs p fs hd sh r du, σ') := by
  let s := st .law 17
  have b1 : (tl L wON w1).length ≤ 4 := Nat.le_trans (tl_len ..) (ws_len h1)
  have b2 : (tl L wOFF w2).length ≤ 4 := Nat.le_trans (tl_len ..) (ws_len h2)
  obtain ⟨σ1, F1, d1, e1⟩ := due_word (xs := xs) (fs := fs) (hd := hd) (r := r) m (acc := []) F hd_ hdu (by decide) .on h1 (by kernel_rfl)
  obtain ⟨σ2, F2, d2, e2⟩ := due_word (xs := xs) (fs := fs) (hd := hd) (r := r) m F1 d1 hdu (by rw [List.nil_append]; exact Nat.le_trans b1 (by decide)) .off h2 (by kernel_rfl)
  obtain ⟨σ3, F3, d3, e3⟩ := due_word (xs := xs) (fs := fs) (hd := hd) (r := r) m F2 d2 hdu (by rw [List.nil_append, List.length_append]; exact Nat.le_trans (Nat.add_le_add b1 b2) (by decide)) .locked h3 (by kernel_rfl)
  refine ⟨σ3, F3, d3, ?_⟩
  refine s_for (tg := tgOf s) (it := exOf s) (body := bodyOf s) (vs := [.str wON, .str wOFF, .str wLK]) (σ₁ := σ) (by kernel_rfl) (by kernel_rfl) ?_
  exact for_cons (by cases hd <;> kernel_rfl) e1 (for_cons (by cases hd <;> kernel_rfl) e2 (for_cons (by cases hd <;> kernel_rfl) e3 (for_nil.trans (by cases hd <;> kernel_rfl))))

/-! 18, 19: the row -/
noncomputable def l18L : Expr := exOf (st .law 18)
noncomputable def g18 : Expr × Expr × List Expr × Scope := genOf l18L
noncomputable def I18 : Expr := (g18.2.2.1[0]?).getD noE
noncomputable def litOf (L w2 : List Int) : List Int := L.filter fun n => !w2.contains n
noncomputable def GL (xs : List Int) (p fs : Nat) (hd : Option Nat) (sh : Nat) (r : List T) (du lt : Nat) : Ga := GD xs p fs hd sh r du ++ [(nm "lit", .own lt)]
set_option tactic.hygienic false in
theorem law18 {du : Nat} {dl : List T} (F : Fn p sh σ L row w1 w2 w3 w4 S) (hd_ : σ[du]? = some (.list dl)) (hdu : sh < du) (hL : L.length ≤ 3) :
    ∃ σ' lt, Fn p sh σ' L row w1 w2 w3 w4 S ∧ σ'[du]? = some (.list dl) ∧ frzL σ' lt = some (intsT (litOf L w2)) ∧ du < lt ∧ stepS (R0 m) lwC (GD xs p fs hd sh r du) σ (st .law 18) = some (.next, GL xs p fs hd sh r du lt, σ') := by
  let Γ := GD xs p fs hd sh r du
  let σ1 := σ.set (p + 2) (.frz (intsT L))
  have F1 := F.fli
  have hlt := F.lt
  have d1 : σ1[du]? = some (.list dl) := get_other hd_ (by omega)
  refine ⟨σ1 ++ [.list ((litOf L w2).map .int)], σ1.length, F1.app, get_app d1, frzL_list get_new, get_lt d1, ?_⟩
  refine s_asgC (x := nm "lit") (elt := eltOf l18L) (tg := g18.1) (it := g18.2.1) (ifs := g18.2.2.1) (sc := g18.2.2.2) (by kernel_rfl) (comp_e (vs := L.map .int) (σ₁ := σ1) (by kernel_rfl) (src_call (v := .own (p + 2)) (t := intsT L) (σ₁ := σ) (by kernel_rfl) (by cases hd <;> kernel_rfl) (frz_at F.li) rfl) (Nat.ble_eq_true_of_le (by rw [List.length_map]; omega)) ?_) (by cases hd <;> kernel_rfl)
  rw [show freeOf g18.2.2.2.names Γ = [(nm "some", .own (p + 3))] from by cases hd <;> kernel_rfl, show g18.2.2.1 = [I18] from by kernel_rfl]
  let G : Int → Ga := fun n => [(nm "some", .own (p + 3)), (nm "number", .t (.int n))]
  refine comp_test (fun Γ => Γ = [(nm "some", .own (p + 3))] ∨ ∃ v, Γ = [(nm "some", .own (p + 3)), (nm "number", v)]) G (fun n => !w2.contains n) .int (fun n => .inr ⟨_, rfl⟩) ?_ L ?_ ?_ _ (.inl rfl)
  · intro n Γ' hJ
    rcases hJ with rfl | ⟨v, rfl⟩ <;> kernel_rfl
  · intro n hn
    refine (b_run (m + 78) _ _ _ _).trans ?_
    rw [show ∀ σ, stepB (run (m + 78)) ⟨g18.2.2.2.names⟩ (G n) σ I18 = cmpB (run (m + 78)) ⟨g18.2.2.2.names⟩ (G n) σ (cmpOf I18).1 [.NotIn] [(cmpOf I18).2] from fun _ => by kernel_rfl]
    refine cmp_notin (v := .t (intsT w2)) (by kernel_rfl) (by kernel_rfl) ?_ rfl
    let B := subOf (cmpOf I18).2
    refine (e_run (m + 77) _ _ _ _).trans ?_
    rw [show ∀ σ, stepE (run (m + 77)) ⟨g18.2.2.2.names⟩ (G n) σ (cmpOf I18).2 = sbsE (run (m + 77)) ⟨g18.2.2.2.names⟩ (G n) σ B.1 B.2 from fun _ => by kernel_rfl]
    exact sbs_look (v := .own (p + 3)) (k := .str wOFF) (by kernel_rfl) (by kernel_rfl) (by kernel_rfl) F1.so (by kernel_rfl)
  · intro n hn _
    kernel_rfl

set_option tactic.hygienic false in
theorem lit_eq {L row : List Int} (h : LRow L row) (w : List Int) : (row.filter fun n => (litOf L w).contains n) = row.filter fun n => !w.contains n := by
  have sub : ∀ n ∈ row, n ∈ L := by cases h <;> simp
  refine List.filter_congr fun n hn => ?_
  unfold litOf
  rw [Bool.eq_iff_iff, List.contains_iff_mem, List.mem_filter]
  exact ⟨fun q => q.2, fun q => ⟨sub n hn, q⟩⟩
noncomputable def l19 : Stmt := st .law 19
noncomputable def E19 : Expr := exOf l19
noncomputable def C19 : Expr := arg (cmpOf E19).1 0
noncomputable def g19 : Expr × Expr × List Expr × Scope := genOf C19
noncomputable def I19 : Expr := (g19.2.2.1[0]?).getD noE
set_option tactic.hygienic false in
theorem law19 {du lt : Nat} {acc : List Str} (F : Fn p sh σ L row w1 w2 w3 w4 S) (hd_ : σ[du]? = some (.list (strsT acc))) (hdu : sh < du) (ha : acc.length ≤ 100) (hlit : frzL σ lt = some (intsT (litOf L w2))) (hdl : du < lt) (hR : LRow L row) :
    ∃ σ', Fn p sh σ' L row w1 w2 w3 w4 S ∧ σ'[du]? = some (.list (strsT (acc ++ crowdS (crowd row w2)))) ∧ stepS (R0 m) lwC (GL xs p fs hd sh r du lt) σ (st .law 19) = some (.next, GL xs p fs hd sh r du lt, σ') := by
  let Γ := GL xs p fs hd sh r du lt
  let σ1 := σ.set (p + 8) (.frz (intsT row))
  have F1 := F.fro
  have hlt := F.lt
  let k := (row.filter fun n => !w2.contains n)
  have hk : k.length ≤ 3 := Nat.le_trans (List.length_filter_le ..) (by cases hR <;> decide)
  let σ2 := σ1 ++ [OObj.list (k.map .int)]
  have F2 : Fn p sh σ2 L row w1 w2 w3 w4 S := F1.app
  have d2 : σ2[du]? = some (.list (strsT acc)) := get_app (get_other hd_ (by omega))
  have hB : (R0 m).b lwC Γ σ E19 = some (crowd row w2, σ2) := by
    refine (b_run (m + 78) _ _ _ _).trans ?_
    rw [show ∀ σ, stepB (run (m + 78)) lwC Γ σ E19 = cmpB (run (m + 78)) lwC Γ σ (cmpOf E19).1 [.Gt] [(cmpOf E19).2] from fun _ => by kernel_rfl]
    have e : crowd row w2 = decide ((1 : Int) < (k.length : Int)) := by
      show decide (1 < k.length) = _
      exact decide_eq_decide.mpr (by omega)
    rw [e]
    refine cmp_gt (σ₁ := σ2) (by kernel_rfl) ?_ (by kernel_rfl)
    refine (e_run (m + 77) _ _ _ _).trans ?_
    rw [show ∀ σ, stepE (run (m + 77)) lwC Γ σ (cmpOf E19).1 = calE (run (m + 77)) lwC Γ σ (nm "len") [C19] from fun _ => by kernel_rfl]
    refine cal_len (v := .own σ1.length) (t := .list (k.map .int)) (by kernel_rfl) (evs_cons (by kernel_rfl) ?_ rfl) (frzL_list get_new) (by
      rw [len_bi (by rw [List.length_map]; omega), List.length_map])
    refine (e_run (m + 76) _ _ _ _).trans ?_
    rw [show ∀ σ, stepE (run (m + 76)) lwC Γ σ C19 = lcE (run (m + 76)) lwC Γ σ (eltOf C19) g19.1 g19.2.1 g19.2.2.1 g19.2.2.2 from fun _ => by kernel_rfl]
    refine lc_e (comp_e (vs := row.map .int) (σ₁ := σ1) (by kernel_rfl) (src_call (v := .own (p + 8)) (t := intsT row) (σ₁ := σ) (by kernel_rfl) (by cases hd <;> kernel_rfl) (frz_at F.ro) rfl) (Nat.ble_eq_true_of_le (by rw [List.length_map]; exact Nat.le_trans (ws_len hR.ws) (by decide))) ?_)
    rw [show freeOf g19.2.2.2.names Γ = [(nm "lit", .own lt)] from by cases hd <;> kernel_rfl, show g19.2.2.1 = [I19] from by kernel_rfl]
    show _ = some ((row.filter fun n => !w2.contains n).map T.int, σ1)
    rw [← lit_eq hR w2]
    let G : Int → Ga := fun n => [(nm "lit", .own lt), (nm "number", .t (.int n))]
    refine comp_test (fun Γ => Γ = [(nm "lit", .own lt)] ∨ ∃ v, Γ = [(nm "lit", .own lt), (nm "number", v)]) G (fun n => (litOf L w2).contains n) .int (fun n => .inr ⟨_, rfl⟩) ?_ row ?_ ?_ _ (.inl rfl)
    · intro n Γ' hJ
      rcases hJ with rfl | ⟨v, rfl⟩ <;> kernel_rfl
    · intro n hn
      refine (b_run (m + 75) _ _ _ _).trans ?_
      rw [show ∀ σ, stepB (run (m + 75)) ⟨g19.2.2.2.names⟩ (G n) σ I19 = cmpB (run (m + 75)) ⟨g19.2.2.2.names⟩ (G n) σ (cmpOf I19).1 [.In] [(cmpOf I19).2] from fun _ => by kernel_rfl]
      exact cmp_in (v := .own lt) (by kernel_rfl) (by kernel_rfl) (by kernel_rfl) (frzL_other hlit (by omega))
    · intro n hn _
      kernel_rfl
  cases hcr : crowd row w2 with
  | false =>
    rw [hcr] at hB
    refine ⟨σ2, F2, ?_, s_if (c := E19) (a := bodyOf l19) (b := []) (k := false) (by kernel_rfl) hB rfl⟩
    rw [show crowdS false = [] from rfl, List.append_nil]; exact d2
  | true =>
    rw [hcr] at hB
    let b := nth (bodyOf l19) 0
    let M := mOf (exOf b)
    have hacc : (strsT acc).length = acc.length := List.length_map ..
    refine ⟨σ2.set du (.list (strsT acc ++ [.str (Str.ofString "more than one group is on in the row 0")])), F2.set hdu _, ?_, s_if (c := E19) (a := bodyOf l19) (b := []) (k := true) (by kernel_rfl) hB ?_⟩
    · have e : strsT (acc ++ crowdS true) = strsT acc ++ [.str (Str.ofString "more than one group is on in the row 0")] := List.map_append
      rw [e]; exact get_self d2
    · refine (x_run (m + 78) _ _ _ _).trans ?_
      rw [show bodyOf l19 = [b] from by kernel_rfl]
      refine x_next (s_expr (by kernel_rfl) ?_) rfl
      refine (e_run (m + 77) _ _ _ _).trans ?_
      rw [show ∀ σ, stepE (run (m + 77)) lwC Γ σ (exOf b) = mthE (run (m + 77)) lwC Γ σ M.1 M.2.1 M.2.2.1 M.2.2.2.1 M.2.2.2.2 from fun _ => by kernel_rfl]
      exact mth_append (i := du) (ts := strsT acc) (ts' := strsT acc) (σ₁ := σ2) (by kernel_rfl) (by kernel_rfl) (by cases hd <;> kernel_rfl) d2 (by kernel_rfl) d2 (sizeOk_of (by omega))
end
end Mine
end
section
set_option maxRecDepth 100000
set_option autoImplicit false
namespace Mine
open PySem

section
variable (m : Nat) {xs : List Int} {p fs : Nat} {hd : Option Nat} {sh : Nat} {r : List T} {σ : Sg} {L row w1 w2 w3 w4 : List Int} {S : T}
/-! 20: Order -/
noncomputable def l20 : Stmt := st .law 20
noncomputable def M20 : Expr × Str × Pos × List Expr × Pos := mOf (exOf l20)
noncomputable def C20 : Expr := (M20.2.2.2.1[0]?).getD noE
noncomputable def g20 : Expr × Expr × List Expr × Scope := genOf C20
noncomputable def I20 : Expr := (g20.2.2.1[0]?).getD noE
set_option tactic.hygienic false in
theorem law20 {du lt : Nat} {acc : List Str} (F : Fn p sh σ L row w1 w2 w3 w4 S) (hd_ : σ[du]? = some (.list (strsT acc))) (hdu : sh < du) (ha : acc.length ≤ 100) (hw : w4 ∈ ws) :
    ∃ σ', Fn p sh σ' L row w1 w2 w3 w4 S ∧ σ'[du]? = some (.list (strsT (acc ++ tl L oW w4))) ∧ stepS (R0 m) lwC (GL xs p fs hd sh r du lt) σ l20 = some (.next, GL xs p fs hd sh r du lt, σ') := by
  let Γ := GL xs p fs hd sh r du lt
  let us := strsT (tl L oW w4)
  have hlw := ws_len hw
  have hul : us.length ≤ 4 := by show (strsT (tl L oW w4)).length ≤ 4; unfold strsT; rw [List.length_map]; exact Nat.le_trans (tl_len ..) hlw
  have hacc : (strsT acc).length = acc.length := List.length_map ..
  let σ1 := σ ++ [OObj.list us]
  let σ2 := σ ++ [OObj.frz (.list us)]
  refine ⟨σ2.set du (.list (strsT acc ++ us)), F.app.set hdu _, ?_, ?_⟩
  · have e : strsT (acc ++ tl L oW w4) = strsT acc ++ us := List.map_append
    rw [e]; exact get_self (get_app hd_)
  refine s_expr (by kernel_rfl) ?_
  refine (e_run (m + 78) _ _ _ _).trans ?_
  rw [show ∀ σ, stepE (run (m + 78)) lwC Γ σ (exOf l20) = mthE (run (m + 78)) lwC Γ σ M20.1 M20.2.1 M20.2.2.1 [C20] M20.2.2.2.2 from fun _ => by kernel_rfl]
  refine mth_extend (i := du) (ts := strsT acc) (ts' := strsT acc) (us := us) (v := .own σ.length) (σ₁ := σ1) (σ₂ := σ2) (by kernel_rfl) (by kernel_rfl) (by cases hd <;> kernel_rfl) hd_ (evs_cons (by kernel_rfl) ?_ rfl) (frz_list us) (get_app hd_) (sizeOk_of (by omega))
  refine (e_run (m + 77) _ _ _ _).trans ?_
  rw [show ∀ σ, stepE (run (m + 77)) lwC Γ σ C20 = lcE (run (m + 77)) lwC Γ σ (eltOf C20) g20.1 g20.2.1 g20.2.2.1 g20.2.2.2 from fun _ => by kernel_rfl]
  refine lc_e (comp_e (vs := w4.map .int) (σ₁ := σ) (by kernel_rfl) (src_call (v := .t (intsT w4)) (σ₁ := σ) (by kernel_rfl) ?_ rfl rfl) (Nat.ble_eq_true_of_le (by rw [List.length_map]; omega)) ?_)
  · let B := subOf g20.2.1
    refine (e_run (m + 76) _ _ _ _).trans ?_
    rw [show ∀ σ, stepE (run (m + 76)) lwC Γ σ g20.2.1 = sbsE (run (m + 76)) lwC Γ σ B.1 B.2 from fun _ => by kernel_rfl]
    exact sbs_look (v := .own (p + 3)) (k := .str wOR) (by kernel_rfl) (by cases hd <;> kernel_rfl) (by cases hd <;> kernel_rfl) F.so (by kernel_rfl)
  · have hs : us = (w4.filter fun n => !L.contains n).map fun n => T.str (tells oW n) := tl_filter L oW w4
    rw [hs, show freeOf g20.2.2.2.names Γ = [(nm "listed", .own (p + 2))] from by cases hd <;> kernel_rfl, show g20.2.2.1 = [I20] from by kernel_rfl]
    let G : Int → Ga := fun n => [(nm "listed", .own (p + 2)), (nm "number", .t (.int n))]
    refine comp_test (fun Γ => Γ = [(nm "listed", .own (p + 2))] ∨ ∃ v, Γ = [(nm "listed", .own (p + 2)), (nm "number", v)]) G (fun n => !L.contains n) (fun n => T.str (tells oW n)) (fun n => .inr ⟨_, rfl⟩) ?_ w4 ?_ ?_ _ (.inl rfl)
    · intro n Γ' hJ
      rcases hJ with rfl | ⟨v, rfl⟩ <;> kernel_rfl
    · intro n hn
      refine (b_run (m + 76) _ _ _ _).trans ?_
      rw [show ∀ σ, stepB (run (m + 76)) ⟨g20.2.2.2.names⟩ (G n) σ I20 = cmpB (run (m + 76)) ⟨g20.2.2.2.names⟩ (G n) σ (cmpOf I20).1 [.NotIn] [(cmpOf I20).2] from fun _ => by kernel_rfl]
      exact cmp_notin (v := .own (p + 2)) (by kernel_rfl) (by kernel_rfl) (by kernel_rfl) F.li
    · intro n hn _
      have e := ws_nm hw n hn
      cases e <;> kernel_rfl

/-! 21: the fields' lines -/
noncomputable def l21 : Stmt := st .law 21
noncomputable def M21 : Expr × Str × Pos × List Expr × Pos := mOf (exOf l21)
noncomputable def C21 : Expr := (M21.2.2.2.1[0]?).getD noE
noncomputable def g21 : Expr × Expr × List Expr × Scope := genOf C21
set_option tactic.hygienic false in
theorem law21 {du lt : Nat} {acc : List Str} {vs : List Vv} (F : Fn p sh σ L row w1 w2 w3 w4 (shL L row w1 w2 w3 w4 (entsT 0 vs))) (hd_ : σ[du]? = some (.list (strsT acc))) (hdu : sh < du) (ha : acc.length ≤ 100) (hv : Fv vs) :
    ∃ σ', Fn p sh σ' L row w1 w2 w3 w4 (shL L row w1 w2 w3 w4 (entsT 0 vs)) ∧ σ'[du]? = some (.list (strsT (acc ++ flawsS 0 vs))) ∧ stepS (R0 m) lwC (GL xs p fs hd sh r du lt) σ l21 = some (.next, GL xs p fs hd sh r du lt, σ') := by
  let Γ := GL xs p fs hd sh r du lt
  let S := shL L row w1 w2 w3 w4 (entsT 0 vs)
  let us := strsT (flawsS 0 vs)
  have hul : us.length ≤ 6 := by show (strsT (flawsS 0 vs)).length ≤ 6; unfold strsT; rw [List.length_map]; exact flawsS_len hv
  have hacc : (strsT acc).length = acc.length := List.length_map ..
  let σ1 := σ ++ [OObj.list us]
  let σ2 := σ ++ [OObj.frz (.list us)]
  refine ⟨σ2.set du (.list (strsT acc ++ us)), F.app.set hdu _, ?_, ?_⟩
  · have e : strsT (acc ++ flawsS 0 vs) = strsT acc ++ us := List.map_append
    rw [e]; exact get_self (get_app hd_)
  refine s_expr (by kernel_rfl) ?_
  refine (e_run (m + 78) _ _ _ _).trans ?_
  rw [show ∀ σ, stepE (run (m + 78)) lwC Γ σ (exOf l21) = mthE (run (m + 78)) lwC Γ σ M21.1 M21.2.1 M21.2.2.1 [C21] M21.2.2.2.2 from fun _ => by kernel_rfl]
  refine mth_extend (i := du) (ts := strsT acc) (ts' := strsT acc) (us := us) (v := .own σ.length) (σ₁ := σ1) (σ₂ := σ2) (by kernel_rfl) (by kernel_rfl) (by cases hd <;> kernel_rfl) hd_ (evs_cons (by kernel_rfl) ?_ rfl) (frz_list us) (get_app hd_) (sizeOk_of (by omega))
  refine (e_run (m + 77) _ _ _ _).trans ?_
  rw [show ∀ σ, stepE (run (m + 77)) lwC Γ σ C21 = lcE (run (m + 77)) lwC Γ σ (eltOf C21) g21.1 g21.2.1 g21.2.2.1 g21.2.2.2 from fun _ => by kernel_rfl]
  have hlen : (flawsT 0 vs).length ≤ 6 := by
    have q := flaws_flw hv
    have : (flawsT 0 vs).length = us.length := by
      show (flawsT 0 vs).length = (strsT (flawsS 0 vs)).length
      revert q
      generalize flawsT 0 vs = a
      generalize strsT (flawsS 0 vs) = b
      intro h
      induction h with
      | nil => rfl
      | cons _ _ ih => exact congrArg Nat.succ ih
    omega
  refine lc_e (comp_e (vs := flawsT 0 vs) (σ₁ := σ) (by kernel_rfl) (src_call (v := .t (.list (flawsT 0 vs))) (σ₁ := σ) (by kernel_rfl) ?_ rfl rfl) (Nat.ble_eq_true_of_le (by omega)) ?_)
  · refine (e_run (m + 76) _ _ _ _).trans ?_
    rw [show ∀ σ, stepE (run (m + 76)) lwC Γ σ g21.2.1 = calE (run (m + 76)) lwC Γ σ (nm "field_faults") (argsOf g21.2.1) from fun _ => by kernel_rfl]
    have e := frz_at (frzL_frz F.sv)
    rw [set_id F.sv] at e
    exact cal_pure (f := .field_faults) (as := [.own sh]) (ts := [S]) (σ₁ := σ) (by kernel_rfl) rfl (by cases hd <;> kernel_rfl) (frzs_one e) (fields_ok (m + 35) (refsT L) (fstT row w1 w2 w3 w4) hv)
  · refine comp_map Jn2 Flw ?_ _ _ (flaws_flw hv) _ (.inl (by cases hd <;> kernel_rfl))
    intro v t hp Γ1 hJ
    have turn : ∀ (n : Int) (w : Str) (_ : (run (m + 77)).e ⟨g21.2.2.2.names⟩ (lnG n w) σ (eltOf C21) = some (.t (.str (colon n w)), σ)), ∃ Γ' a, bindT ⟨g21.2.2.2.names⟩ g21.1 (.tup [.int n, .str w]) Γ1 = some Γ' ∧ Jn2 Γ' ∧
        andsB (run (m + 77)) ⟨g21.2.2.2.names⟩ Γ' σ g21.2.2.1 = some (true, σ) ∧ (run (m + 77)).e ⟨g21.2.2.2.names⟩ Γ' σ (eltOf C21) = some (a, σ) ∧ frz σ a = some (.str (colon n w), σ) := by
      intro n w he
      refine ⟨lnG n w, _, ?_, .inr ⟨_, _, rfl⟩, by kernel_rfl, he, rfl⟩
      rcases hJ with rfl | ⟨a, b, rfl⟩ <;> kernel_rfl
    cases hp with
    | d1 => exact turn 21 dotS (by kernel_rfl)
    | l0 => exact turn 20 longS (by kernel_rfl)
    | l1 => exact turn 21 longS (by kernel_rfl)
    | l2 => exact turn 22 longS (by kernel_rfl)

/-! 22, 23: the end -/
noncomputable def GZ (xs : List Int) (p fs : Nat) (hd : Option Nat) (sh : Nat) (r : List T) (du lt : Nat) (t : Str) : Ga := GL xs p fs hd sh r du lt ++ [(nm "text", .t (.str t))]
noncomputable def E23 : Expr := exOf (st .law 23)
noncomputable def a23 : Expr := (bigOf E23)[0]?.getD noE
noncomputable def b23 : Expr := (bigOf E23)[1]?.getD noE
noncomputable def i23 : Expr × Expr × Expr := ifOf (cmpOf a23).2
set_option tactic.hygienic false in
theorem law22 {du lt : Nat} {vs : List Vv} (hR : LRow L row) (h1 : w1 ∈ ws) (h2 : w2 ∈ ws) (h3 : w3 ∈ ws) (h4 : w4 ∈ ws) (F : Fn p sh σ L row w1 w2 w3 w4 (shL L row w1 w2 w3 w4 (entsT 0 vs))) (hv : Fv vs) :
    stepS (R0 m) lwC (GL xs p fs hd sh r du lt) σ (st .law 22) = some (.next, GZ xs p fs hd sh r du lt (rowsS (LF L row w1 w2 w3 w4 ++ flawsS 0 vs)), σ) := by
  let Γ := GL xs p fs hd sh r du lt
  let E := exOf (st .law 22)
  refine s_asg (x := nm "text") (e := E) (v := .t (.str (rowsS (LF L row w1 w2 w3 w4 ++ flawsS 0 vs)))) (by kernel_rfl) (by kernel_rfl) ?_ (by cases hd <;> kernel_rfl)
  refine (e_run (m + 78) _ _ _ _).trans ?_
  rw [show ∀ σ, stepE (run (m + 78)) lwC Γ σ E = calE (run (m + 78)) lwC Γ σ (nm "flaws_text") (argsOf E) from fun _ => by kernel_rfl]
  have e := frz_at (frzL_frz F.sv)
  rw [set_id F.sv] at e
  exact cal_pure (f := .flaws_text) (as := [.own sh]) (σ₁ := σ) (by kernel_rfl) rfl (by cases hd <;> kernel_rfl) (frzs_one e) (flaws_ok (m + 13) hR h1 h2 h3 h4 hv)
set_option tactic.hygienic false in
theorem cmp_ne_nil {R : Rec} {cx : Cx} {Γ : Ga} {σ : Sg} {l c : Expr} {i : Nat} {ts : List T} (hs : notSet c = true) (h1 : R.e cx Γ σ l = some (.own i, σ)) (h2 : R.e cx Γ σ c = some (.own σ.length, σ ++ [.list []])) (hv : σ[i]? = some (.list ts)) : cmpB R cx Γ σ l [.NotEq] [c] = some (!ts.isEmpty, σ ++ [.list []]) := by
  have e1 : look (σ ++ [.list []]) (.own i) = some (.list ts) := frzL_list (get_app hv)
  have e2 : look (σ ++ [.list []]) (.own σ.length) = some (.list []) := frzL_list get_new
  refine cmp_one hs h1 h2 ?_
  have e : cmpA .NotEq (σ ++ [.list []]) (.own i) (.own σ.length) = (match look (σ ++ [.list []]) (.own i), look (σ ++ [.list []]) (.own σ.length) with
    | some x, some y => neV x y
    | _, _ => none) := rfl
  rw [e, e1, e2]; rfl
set_option tactic.hygienic false in
theorem cmp_eq_t {R : Rec} {cx : Cx} {Γ : Ga} {σ σ₁ : Sg} {l c : Expr} {x : T} {a b : AV} (hs : notSet c = true) (h1 : R.e cx Γ σ l = some (a, σ)) (h2 : R.e cx Γ σ c = some (b, σ₁)) (ha : look σ₁ a = some x) (hb : look σ₁ b = some x) (hx : eqV x x = some true) : cmpB R cx Γ σ l [.Eq] [c] = some (true, σ₁) := by
  refine cmp_one hs h1 h2 ?_
  have e : cmpA .Eq σ₁ a b = (match look σ₁ a, look σ₁ b with
    | some x, some y => eqV x y
    | _, _ => none) := rfl
  rw [e, ha, hb]; exact hx
set_option tactic.hygienic false in
theorem cmpE_of {R : Rec} {cx : Cx} {Γ : Ga} {σ σ₁ : Sg} {l c : Expr} {op : CmpOp} {b : Bool} (h : cmpB R cx Γ σ l [op] [c] = some (b, σ₁)) : cmpE R cx Γ σ l [op] [c] = some (.t (.bool b), σ₁) := by
  simp only [cmpE, h, Option.map_some]
set_option tactic.hygienic false in
theorem law23 {du lt : Nat} {all : List Str} (hf : Fine all) (F : Fn p sh σ L row w1 w2 w3 w4 S) (hS : clsOfT S = some .Shelf) (hN : noFld (nm "told") [] (.t S) = true) (hd_ : σ[du]? = some (.list (strsT all)))
    (hr : ∀ m, callT (run (m + 70)) .shelfTold [S] = some (.tup r)) (hp : eqT 50 (.tup r) (.tup r) = true) :
    ∃ σ', stepS (R0 m) lwC (GZ xs p fs hd sh r du lt (rowsS all)) σ (st .law 23) = some (.ret (.t (.bool true)), GZ xs p fs hd sh r du lt (rowsS all), σ') := by
  let Γ := GZ xs p fs hd sh r du lt (rowsS all)
  let σ1 := σ ++ [OObj.list []]
  have F1 : Fn p sh σ1 L row w1 w2 w3 w4 S := F.app
  have d1 : σ1[du]? = some (.list (strsT all)) := get_app hd_
  refine ⟨σ1, s_ret (e := E23) (by kernel_rfl) ?_⟩
  refine (e_run (m + 78) _ _ _ _).trans ?_
  rw [show ∀ σ, stepE (run (m + 78)) lwC Γ σ E23 = boolV (run (m + 78)) lwC Γ .And σ [a23, b23] from fun _ => by kernel_rfl]
  have hA : (run (m + 78)).e lwC Γ σ a23 = some (.t (.bool true), σ1) := by
    refine (e_run (m + 77) _ _ _ _).trans ?_
    rw [show ∀ σ, stepE (run (m + 77)) lwC Γ σ a23 = cmpE (run (m + 77)) lwC Γ σ (cmpOf a23).1 [.Eq] [(cmpOf a23).2] from fun _ => by kernel_rfl]
    refine cmpE_of (cmp_eq_t (x := .str (rowsS all)) (a := .t (.str (rowsS all))) (b := .t (.str (rowsS all))) (by kernel_rfl) (by cases hd <;> kernel_rfl) ?_ rfl rfl ?_)
    · refine (e_run (m + 76) _ _ _ _).trans ?_
      rw [show ∀ σ, stepE (run (m + 76)) lwC Γ σ (cmpOf a23).2 = ifE (run (m + 76)) lwC Γ σ i23.1 i23.2.1 i23.2.2 from fun _ => by kernel_rfl]
      refine ifE_of (k := !(strsT all).isEmpty) (σ₁ := σ1) ?_ ?_
      · refine (b_run (m + 75) _ _ _ _).trans ?_
        rw [show ∀ σ, stepB (run (m + 75)) lwC Γ σ i23.1 = cmpB (run (m + 75)) lwC Γ σ (cmpOf i23.1).1 [.NotEq] [(cmpOf i23.1).2] from fun _ => by kernel_rfl]
        exact cmp_ne_nil (by kernel_rfl) (by cases hd <;> kernel_rfl) (by kernel_rfl) hd_
      · induction all using List.casesOn with
        | nil => kernel_rfl
        | cons x l =>
          rw [show (!(strsT (x :: l)).isEmpty) = true from rfl, if_pos rfl]
          let A := i23.2.1
          refine (e_run (m + 75) _ _ _ _).trans ?_
          rw [show ∀ σ, stepE (run (m + 75)) lwC Γ σ A = mthE (run (m + 75)) lwC Γ σ (mOf A).1 (mOf A).2.1 (mOf A).2.2.1 (mOf A).2.2.2.1 (mOf A).2.2.2.2 from fun _ => by kernel_rfl]
          exact mth_join (l := x :: l) (v := .own du) (by kernel_rfl) (by kernel_rfl) (by kernel_rfl) (by cases hd <;> kernel_rfl) (frzL_list d1) hf
    · show some (sEq (rowsS all) (rowsS all)) = _
      rw [sEq_refl]
  have hB : (run (m + 78)).e lwC Γ σ1 b23 = some (.t (.bool true), σ1) := by
    refine (e_run (m + 77) _ _ _ _).trans ?_
    rw [show ∀ σ, stepE (run (m + 77)) lwC Γ σ b23 = cmpE (run (m + 77)) lwC Γ σ (cmpOf b23).1 [.Eq] [(cmpOf b23).2] from fun _ => by kernel_rfl]
    refine cmpE_of (cmp_eq_t (x := .tup r) (a := .t (.tup r)) (b := .t (.tup r)) (by kernel_rfl) ?_ (by cases hd <;> kernel_rfl) rfl rfl ?_)
    · let A := (cmpOf b23).1
      let M := mOf A
      refine (e_run (m + 76) _ _ _ _).trans ?_
      rw [show ∀ σ, stepE (run (m + 76)) lwC Γ σ A = mthE (run (m + 76)) lwC Γ σ M.1 M.2.1 M.2.2.1 M.2.2.2.1 M.2.2.2.2 from fun _ => by kernel_rfl]
      have e := frz_at (frzL_frz F1.sv)
      rw [set_id F1.sv] at e
      refine mth_def (c := .Shelf) (f := .shelfTold) (v := .own sh) (as := []) (ts := [S]) (σ₁ := σ1) (σ₂ := σ1) (by kernel_rfl) (by cases hd <;> kernel_rfl) ?_ (by kernel_rfl) ?_ (by kernel_rfl) rfl (frzs_one e) (hr (m + 6))
      · simp only [clsOf, F1.sv]; exact hS
      · have e1 : M.2.1 = nm "told" := by kernel_rfl
        rw [e1]
        rw [noFld_own, F1.sv]
        cases S <;> first | exact hN | exact nf hN
    · show (match eqT 50 (.tup r) (.tup r) with | true => some true | false => none) = _
      rw [hp]
  have t1 : look σ1 (.t (.bool true)) = some (.bool true) := rfl
  simp only [boolV, hA, t1, Option.bind_some, truthyT, hB]
end

/-  the law answers True -/
set_option tactic.hygienic false in
theorem law_ok (m : Nat) (xs : List Int) (hx : xs.length ≤ 63) : ∃ σ, (run (m + 80)).c .law [.t (intsT xs)] [] = some (.t (.bool true), σ) := by
  obtain ⟨p, fs, σa, cells, a, L, row, w1, w2, w3, w4, hc, hl, a0, a1, hR, h1, h2, h3, h4, B, hf, hpf, ea⟩ := law_a m xs hx
  obtain ⟨vs, Γ, σb, K, eb⟩ := law11 (xs := xs) m hc hl B hf hpf a0 a1
  obtain ⟨r, rp, hr⟩ := sh_told hR h1 h2 h3 h4 K.fv
  obtain ⟨hd, sh, σc, F, ec⟩ := law_b m K hpf hr
  let S := shL L row w1 w2 w3 w4 (entsT 0 vs)
  have hv := K.fv
  let du := σc.length
  have hsd : sh < du := get_lt F.sv
  have e16 : stepS (R0 m) lwC (GY xs p fs hd sh r) σc (st .law 16) = some (.next, GD xs p fs hd sh r du, σc ++ [.list []]) := by cases hd <;> kernel_rfl
  obtain ⟨σd, F17, d17, e17⟩ := law17 (xs := xs) (fs := fs) (hd := hd) (r := r) m F.app get_new hsd h1 h2 h3
  have hLl : L.length ≤ 3 := by cases hR <;> decide
  obtain ⟨σe, lt, F18, d18, z18, dl, e18⟩ := law18 (xs := xs) (fs := fs) (hd := hd) (r := r) m F17 d17 hsd hLl
  have hfine := all_fine (L := L) (row := row) h1 h2 h3 h4 hv
  have hlen := hfine.1
  have hLF : LF L row w1 w2 w3 w4 = tl L wON w1 ++ tl L wOFF w2 ++ tl L wLK w3 ++ crowdS (crowd row w2) ++ tl L oW w4 := rfl
  rw [hLF] at hlen
  simp only [List.length_append] at hlen
  obtain ⟨σf, F19, d19, e19⟩ := law19 (xs := xs) (fs := fs) (hd := hd) (r := r) m F18 d18 hsd (by simp only [List.length_append]; omega) z18 dl hR
  obtain ⟨σg, F20, d20, e20⟩ := law20 (xs := xs) (fs := fs) (hd := hd) (r := r) (lt := lt) m F19 d19 hsd (by simp only [List.length_append]; omega) h4
  obtain ⟨σh, F21, d21, e21⟩ := law21 (xs := xs) (fs := fs) (hd := hd) (r := r) (lt := lt) m F20 d20 hsd (by simp only [List.length_append]; omega) hv
  have e22 := law22 (xs := xs) (fs := fs) (hd := hd) (r := r) (du := du) (lt := lt) m hR h1 h2 h3 h4 F21 hv
  obtain ⟨σi, e23⟩ := law23 (xs := xs) (fs := fs) (hd := hd) (r := r) (lt := lt) m (all := LF L row w1 w2 w3 w4 ++ flawsS 0 vs) hfine F21 rfl (by kernel_rfl) d21 hr rp
  refine ⟨σi, ?_⟩
  refine stepC_of (R := R0 m) (b := st .law 0 :: st .law 1 :: st .law 2 :: st .law 3 :: st .law 4 :: st .law 5 :: st .law 6 :: st .law 7 :: st .law 8 :: st .law 9 :: st .law 10 :: st .law 11 :: st .law 12 :: st .law 13 :: st .law 14 :: st .law 15 :: [st .law 16, st .law 17, st .law 18, st .law 19, l20, l21, st .law 22, st .law 23]) (v := .t (.bool true)) (Γ₁ := GZ xs p fs hd sh r du lt (rowsS (LF L row w1 w2 w3 w4 ++ flawsS 0 vs))) (by kernel_rfl) (by kernel_rfl) rfl ?_
  exact (ea _).trans ((x_next' eb).trans ((ec _).trans ((x_next' e16).trans ((x_next' e17).trans ((x_next' e18).trans ((x_next' e19).trans ((x_next' e20).trans ((x_next' e21).trans ((x_next' e22).trans (x_ret e23))))))))))
end Mine
end
section
set_option maxRecDepth 100000
namespace Mine.H
open PySem PySem.W
/-! the objects behind the top; printed by mkhead.py -/

noncomputable abbrev N (o : Obj) (l r : BT) : BT := .node o l r
noncomputable def s (x : String) (n : Nat) : Value := .str (Str.ofString x) n
noncomputable def i (x : Int) (n : Nat) : Value := .int x n
noncomputable def r (a : Nat) : Value := .ref a
noncomputable def n : Value := .none
noncomputable def b (x : Bool) : Value := .bool x
noncomputable def y (x : String) : Value := .type x
noncomputable def u (x : String) : Value := .builtin x
noncomputable def e (P : Params) (x : String) (n : Nat) (v : Value) : DictEntry := ⟨PyData.keyHash P (Str.ofString x), .str (Str.ofString x) n, v⟩
noncomputable def t (l : List Value) : Obj := { cls := .type "tuple", data := .seq ⟨l⟩ }
noncomputable def f (l : List Value) : Obj := { cls := .none, data := .fields ⟨l⟩ }
noncomputable def g (x : String) (l : List Value) : Obj := { cls := .type x, data := .fields ⟨l⟩ }
noncomputable def d (l : List DictEntry) (n : Nat) : Obj := { cls := .type "dict", data := .dict ⟨l⟩ n }
noncomputable def d0 (l : List DictEntry) (n : Nat) : Obj := { cls := .none, data := .dict ⟨l⟩ n }
noncomputable def p (x : String) (l : List (Option Value)) : Obj := { cls := .type x, slots := ⟨l⟩ }
noncomputable def c (x : String) (bs mro : List Value) (ns : Nat) (sub : List Value) (l : List (Option Value)) : Obj :=
  { cls := .type "type", data := .cls { name := Str.ofString x, bases := bs, mro := mro, ns := ns, qualname := Str.ofString x, subclasses := sub }, slots := ⟨l⟩ }
noncomputable def noS : Stmt := .Pass ⟨0, 0, 0, 0⟩
noncomputable def D (a : Nat) : Stmt := (top[a]?).getD noS
noncomputable def M (a k : Nat) : Stmt := match D a with
  | .ClassDef _ _ _ l .. => (l[k]?).getD noS
  | _ => noS
noncomputable def fd (q : String) (x : Stmt) (gl : Nat) (df md cd : Value) : FuncData := match x with
  | .FunctionDef nm a bd _ _ _ sc .. => { name := nm, qualname := Str.ofString q, params := a, body := .stmts bd, scope := sc, globals := gl, closure := [], defaults := df, kwdefaults := .none, pyModule := md, code := cd }
  | _ => default
noncomputable def h (q : String) (x : Stmt) : Obj := { cls := .none, data := .func (fd q x 0 .none .none .none) }
noncomputable def k (q : String) (x : Stmt) (df md : Value) (cd : Nat) : Obj := { cls := .type "function", data := .func (fd q x 3 df md (.ref cd)) }

noncomputable def T0 (P : Params) : BT := (N (PySem.W.boot_o_0 P) (N (PySem.W.boot_o_1 P) (N (PySem.W.boot_o_3 P) (N (PySem.W.boot_o_7 P) .nil .nil) (N (t []) .nil .nil)) (N (PySem.W.boot_o_5 P) (N (PySem.W.boot_o_9 P) .nil .nil) (N (g "code" [s "<module>" 182, s "<module>" 183, s "/claim/cut.py" 184, i 1 0, i 0 0, i 0 0, i 0 0, i 0 0, r 11, b false, i 181 0, r 12, n, n, n, n, i 185 0, i 1 0, s "/claim/cut.py" 186]) .nil .nil))) (N (PySem.W.boot_o_2 P) (N (PySem.W.boot_o_4 P) (N (PySem.W.boot_o_8 P) .nil .nil) (N (f []) .nil .nil)) (N (PySem.W.boot_o_6 P) (N (PySem.W.boot_o_10 P) .nil .nil) (N (p "frame" [some (r 13), some (r 3), some (r 3), none, some (s "__main__" 164), none, some (r 0)]) .nil .nil))))
noncomputable def T1_0 (P : Params) : BT := (N (t []) (N (f []) (N (g "builtin_function_or_method" [u "type.__prepare__", y "type"]) (N (h "Decimal.is_whole" (M 6 6)) (N (g "code" [s "__init__" 498, s "Reference.__init__" 499, s "/claim/cut.py" 500, i 84 0, i 3 0, i 0 0, i 0 0, i 3 0, r 250, b true, i 181 0, r 251, n, r 252, r 253, r 254, i 504 0, i 84 0, s "/claim/cut.py" 505]) (N (f []) .nil .nil) .nil) (N (g "code" [s "accent_signs" 667, s "accent_signs" 668, s "/claim/cut.py" 669, i 179 0, i 0 0, i 0 0, i 0 0, i 3 0, r 378, b true, i 181 0, r 379, n, r 380, r 381, r 382, i 670 0, i 179 0, s "/claim/cut.py" 671]) (N (f []) .nil .nil) .nil)) (N (g "code" [s "__init__" 407, s "Name.__init__" 408, s "/claim/cut.py" 409, i 70 0, i 2 0, i 0 0, i 0 0, i 3 0, r 186, b true, i 181 0, r 187, n, r 188, r 189, r 190, i 412 0, i 70 0, s "/claim/cut.py" 413]) (N (t [s "table" 588, s "trailer" 589]) (N (k "state_in" (D 51) (n) (s "paperhold.fields" 718) 574) .nil .nil) .nil) (N (t []) (N (k "starting_states" (D 71) (r 696) (s "paperhold.layers" 1008) 702) .nil .nil) .nil))) (N (t []) (N (f []) (N (h "told" (D 16)) (N (g "code" [s "new_node" 898, s "new_node" 899, s "/claim/cut.py" 900, i 289 0, i 3 0, i 0 0, i 0 0, i 3 0, r 538, b true, i 181 0, r 539, n, r 540, r 541, r 542, i 906 0, i 289 0, s "/claim/cut.py" 907]) .nil .nil) .nil) (N (h "home_of" (D 29)) (N (t []) .nil .nil) .nil)) (N (g "builtin_function_or_method" [u "type.__prepare__", y "type"]) (N (h "Shelf.drop" (M 19 2)) (N (t []) .nil .nil) .nil) (N (h "whole_in" (D 37)) (N (f []) .nil .nil) .nil)))) (N (g "getset_descriptor" [s "__weakref__" 229, r 46, u "ExceptionGroup.__weakref__", n]) (N (g "code" [s "Decimal" 272, s "Decimal" 273, s "/claim/cut.py" 274, i 19 0, i 0 0, i 0 0, i 0 0, i 0 0, r 77, b false, i 181 0, r 78, n, n, n, n, i 275 0, i 19 0, s "/claim/cut.py" 276]) (N (k "Decimal.rounded" (M 6 8) (n) (s "paperhold.decimals" 268) 142) (N (t []) (N (t []) .nil .nil) .nil) (N (t []) (N (t []) .nil .nil) .nil)) (N (t [b false]) (N (t [s "self" 613, s "number" 614, s "generation" 615, s "value" 616]) (N (g "code" [s "on_states" 963, s "on_states" 964, s "/claim/cut.py" 965, i 344 0, i 2 0, i 0 0, i 0 0, i 3 0, r 588, b true, i 181 0, r 589, n, n, n, r 590, i 966 0, i 344 0, s "/claim/cut.py" 967]) .nil .nil) .nil) (N (t [s "word" 801, s "places" 802]) (N (h "layer_faults" (D 74)) .nil .nil) .nil))) (N (t [s "self" 318]) (N (t []) (N (g "code" [s "__init__" 558, s "Lookup.__init__" 559, s "/claim/cut.py" 560, i 138 0, i 3 0, i 0 0, i 0 0, i 3 0, r 298, b true, i 181 0, r 299, n, r 300, r 301, r 302, i 564 0, i 138 0, s "/claim/cut.py" 565]) (N (h "walked_form" (D 49)) .nil .nil) .nil) (N (g "code" [s "__init__" 741, s "Field.__init__" 742, s "/claim/cut.py" 743, i 230 0, i 7 0, i 0 0, i 0 0, i 3 0, r 426, b true, i 181 0, r 427, n, r 428, r 429, r 430, i 751 0, i 230 0, s "/claim/cut.py" 752]) (N (h "configuration_of" (D 69)) .nil .nil) .nil)) (N (g "getset_descriptor" [s "__dict__" 479, r 238, u "function.__dict__", u "function.__dict__#set"]) (N (k "Shelf.root" (M 19 4) (n) (s "paperhold.objects" 391) 366) (N (k "word_at" (D 61) (n) (s "paperhold.layers" 1008) 622) .nil .nil) .nil) (N (k "has_flag" (D 39) (n) (s "paperhold.fields" 718) 494) .nil .nil)))))
noncomputable def T1_1 (P : Params) : BT := (N (g "builtin_function_or_method" [u "type.__prepare__", y "type"]) (N (t [s "self" 222]) (N (c "DraftFault" [r 46] [r 71, r 46, y "Exception", y "BaseException", y "object"] 70 [] [some (r 62), none, some (s "DraftFault" 252), some (s "DraftFault" 260), some (u "Exception.__new__"), some (b true)]) (N (g "code" [s "floor" 337, s "Decimal.floor" 338, s "/claim/cut.py" 339, i 46 0, i 1 0, i 0 0, i 0 0, i 3 0, r 130, b true, i 181 0, r 131, n, r 132, r 133, r 134, i 341 0, i 46 0, s "/claim/cut.py" 342]) (N (k "Reference.pair" (M 13 1) (n) (s "paperhold.objects" 391) 262) (N (t [s "name" 872, s "part" 873]) .nil .nil) .nil) (N (k "mark_signs" (D 24) (n) (s "paperhold.outlines" 661) 390) (N (t [s "shelf" 1055, s "found" 1056]) .nil .nil) .nil)) (N (g "builtin_function_or_method" [u "object.__init_subclass__", r 195]) (N (g "builtin_function_or_method" [u "type.__prepare__", y "type"]) (N (t [s "shelf" 955, s "leaf" 956, s "found" 957, s "part" 958, s "both" 959]) .nil .nil) .nil) (N (d [e P "__module__" 775 (s "paperhold.fields" 718), e P "__firstlineno__" 779 (i 237 778), e P "__init__" 786 (r 453), e P "__static_attributes__" 790 (r 454), e P "__dict__" 792 (r 457), e P "__weakref__" 794 (r 458), e P "__doc__" 795 (n)] 4) (N (f []) .nil .nil) .nil))) (N (f []) (N (c "Decimal" [y "object"] [r 167, y "object"] 166 [] [none, none, some (s "Decimal" 270), some (s "Decimal" 278), some (u "object.__new__"), some (b true)]) (N (g "code" [s "Lookup" 548, s "Lookup" 549, s "/claim/cut.py" 550, i 136 0, i 0 0, i 0 0, i 0 0, i 0 0, r 293, b false, i 181 0, r 294, n, n, n, n, i 551 0, i 136 0, s "/claim/cut.py" 552]) (N (k "is_field" (D 47) (n) (s "paperhold.fields" 718) 550) .nil .nil) .nil) (N (f [i 230 0, i 4 0, r 431]) (N (d [e P "__module__" 1080 (s "paperhold.layers" 1008), e P "__firstlineno__" 1084 (i 420 1083), e P "__init__" 1098 (r 677), e P "__static_attributes__" 1106 (r 678), e P "__dict__" 1108 (r 681), e P "__weakref__" 1110 (r 682), e P "__doc__" 1111 (n)] 4) .nil .nil) .nil)) (N (t [s "self" 470, s "head" 471, s "octets" 472]) (N (g "code" [s "numbers" 636, s "Shelf.numbers" 637, s "/claim/cut.py" 638, i 166 0, i 1 0, i 0 0, i 0 0, i 3 0, r 354, b true, i 181 0, r 355, n, r 356, r 357, r 358, i 640 0, i 166 0, s "/claim/cut.py" 641]) (N (g "code" [s "field_faults" 1002, s "field_faults" 1003, s "/claim/cut.py" 1004, i 378 0, i 1 0, i 0 0, i 0 0, i 3 0, r 612, b true, i 181 0, r 613, n, n, n, r 614, i 1005 0, i 378 0, s "/claim/cut.py" 1006]) .nil .nil) .nil) (N (g "code" [s "flags_of" 824, s "flags_of" 825, s "/claim/cut.py" 826, i 253 0, i 2 0, i 0 0, i 0 0, i 3 0, r 482, b true, i 181 0, r 483, n, r 484, r 485, r 486, i 830 0, i 253 0, s "/claim/cut.py" 831]) (N (h "_law_refs" (D 81)) .nil .nil) .nil)))) (N (g "code" [s "TreeFault" 238, s "TreeFault" 239, s "/claim/cut.py" 240, i 14 0, i 0 0, i 0 0, i 0 0, i 0 0, r 53, b false, i 181 0, r 54, n, n, n, n, i 241 0, i 14 0, s "/claim/cut.py" 242]) (N (k "Decimal.__init__" (M 6 0) (n) (s "paperhold.decimals" 268) 86) (N (t []) (N (f []) (N (h "with_inherited" (D 45)) .nil .nil) .nil) (N (f []) (N (k "purposes" (D 67) (n) (s "paperhold.layers" 1008) 662) .nil .nil) .nil)) (N (t [s "is_hex" 445, s "octets" 446]) (N (t []) (N (k "shown_states" (D 55) (n) (s "paperhold.fields" 718) 598) .nil .nil) .nil) (N (t []) (N (g "code" [s "rows_text" 1170, s "rows_text" 1171, s "/claim/cut.py" 1172, i 491 0, i 1 0, i 0 0, i 0 0, i 3 0, r 722, b true, i 181 0, r 723, n, r 724, r 725, r 726, i 1174 0, i 491 0, s "/claim/cut.py" 1175]) .nil .nil) .nil))) (N (t []) (N (f [i 70 0, i 4 0, r 191]) (N (k "Lookup.fetch" (M 18 1) (n) (s "paperhold.objects" 391) 310) (N (g "code" [s "text_in" 930, s "text_in" 931, s "/claim/cut.py" 932, i 322 0, i 2 0, i 0 0, i 0 0, i 3 0, r 562, b true, i 181 0, r 563, n, r 564, r 565, r 566, i 935 0, i 322 0, s "/claim/cut.py" 936]) .nil .nil) .nil) (N (g "builtin_function_or_method" [u "object.__init_subclass__", r 435]) (N (k "configuration" (D 70) (r 690) (s "paperhold.layers" 1008) 694) .nil .nil) .nil)) (N (f [i 84 0, i 4 0, r 255, i 88 0, i 4 0, r 262]) (N (c "Shelf" [r 321] [r 375, r 321, y "object"] 374 [] [some (r 326), none, some (s "Shelf" 598), some (s "Shelf" 606), some (u "object.__new__"), some (b true)]) (N (t []) .nil .nil) .nil) (N (t []) .nil .nil)))))
noncomputable def T1_2 (P : Params) : BT := (N (h "_wall" (D 0)) (N (g "code" [s "__init__" 210, s "PaperError.__init__" 211, s "/claim/cut.py" 212, i 7 0, i 3 0, i 0 0, i 0 0, i 3 0, r 30, b true, i 181 0, r 31, n, r 32, r 33, r 34, i 216 0, i 7 0, s "/claim/cut.py" 217]) (N (g "code" [s "DraftFault" 254, s "DraftFault" 255, s "/claim/cut.py" 256, i 16 0, i 0 0, i 0 0, i 0 0, i 0 0, r 65, b false, i 181 0, r 66, n, n, n, n, i 257 0, i 16 0, s "/claim/cut.py" 258]) (N (f []) (N (t [s "self" 510]) (N (g "code" [s "own_name" 860, s "own_name" 861, s "/claim/cut.py" 862, i 268 0, i 2 0, i 0 0, i 0 0, i 3 0, r 510, b true, i 181 0, r 511, n, r 512, r 513, r 514, i 866 0, i 268 0, s "/claim/cut.py" 867]) .nil .nil) .nil) (N (t [s "marks" 676, s "quotes" 677]) (N (g "code" [s "groups_in" 1042, s "groups_in" 1043, s "/claim/cut.py" 1044, i 402 0, i 2 0, i 0 0, i 0 0, i 3 0, r 638, b true, i 181 0, r 639, n, r 640, r 641, r 642, i 1049 0, i 402 0, s "/claim/cut.py" 1050]) .nil .nil) .nil)) (N (c "Name" [y "object"] [r 195, y "object"] 194 [] [none, none, some (s "Name" 395), some (s "Name" 403), some (u "object.__new__"), some (b true)]) (N (g "getset_descriptor" [s "__weakref__" 593, r 321, u "ExceptionGroup.__weakref__", n]) (N (g "code" [s "value_in" 946, s "value_in" 947, s "/claim/cut.py" 948, i 328 0, i 3 0, i 0 0, i 0 0, i 3 0, r 576, b true, i 181 0, r 577, n, n, n, r 578, i 949 0, i 328 0, s "/claim/cut.py" 950]) .nil .nil) .nil) (N (h "FormWalk.__init__" (M 34 0)) (N (g "code" [s "crowded_rows" 1141, s "crowded_rows" 1142, s "/claim/cut.py" 1143, i 453 0, i 2 0, i 0 0, i 0 0, i 3 0, r 704, b true, i 181 0, r 705, n, n, n, r 706, i 1144 0, i 453 0, s "/claim/cut.py" 1145]) .nil .nil) .nil))) (N (h "Decimal.minus" (M 6 2)) (N (g "code" [s "least_text" 367, s "Decimal.least_text" 368, s "/claim/cut.py" 369, i 62 0, i 1 0, i 0 0, i 0 0, i 3 0, r 158, b true, i 181 0, r 159, n, r 160, r 161, r 162, i 371 0, i 62 0, s "/claim/cut.py" 372]) (N (g "builtin_function_or_method" [u "type.__prepare__", y "type"]) (N (t [s "shelf" 912, s "value" 913, s "head" 914]) .nil .nil) .nil) (N (t []) (N (h "Configuration.__init__" (M 68 0)) .nil .nil) .nil)) (N (g "code" [s "Stream" 457, s "Stream" 458, s "/claim/cut.py" 459, i 77 0, i 0 0, i 0 0, i 0 0, i 0 0, r 225, b false, i 181 0, r 226, n, n, n, n, i 460 0, i 77 0, s "/claim/cut.py" 461]) (N (f []) (N (k "value_faults" (D 57) (n) (s "paperhold.fields" 718) 610) .nil .nil) .nil) (N (f []) (N (g "code" [s "_law_draw" 1185, s "_law_draw" 1186, s "/claim/cut.py" 1187, i 498 0, i 2 0, i 0 0, i 0 0, i 3 0, r 734, b true, i 181 0, r 735, n, r 736, r 737, r 738, i 1192 0, i 498 0, s "/claim/cut.py" 1193]) .nil .nil) .nil)))) (N (g "builtin_function_or_method" [u "type.__prepare__", y "type"]) (N (t [s "self" 285, s "top" 286, s "places" 287]) (N (t []) (N (h "kind_of" (D 14)) (N (t []) .nil .nil) .nil) (N (h "text_of_units" (D 26)) (N (t []) .nil .nil) .nil)) (N (t []) (N (k "Shelf.put" (M 19 0) (n) (s "paperhold.objects" 391) 338) (N (t [s "shelf" 972, s "leaf" 973, s "state" 974, s "found" 975, s "is_lone" 976, s "widget" 977, s "is_on" 978]) .nil .nil) .nil) (N (k "flag_place" (D 35) (n) (s "paperhold.fields" 718) 466) (N (f []) .nil .nil) .nil))) (N (k "Decimal.negated" (M 6 4) (n) (s "paperhold.decimals" 268) 114) (N (t []) (N (t [s "self" 570, s "value" 571, s "here" 572, s "hop" 573, s "generation" 574, s "found" 575]) (N (f []) .nil .nil) .nil) (N (c "Field" [y "object"] [r 435, y "object"] 434 [] [none, none, some (s "Field" 729), some (s "Field" 737), some (u "object.__new__"), some (b true)]) (N (t []) .nil .nil) .nil)) (N (t []) (N (g "code" [s "told" 651, s "Shelf.told" 652, s "/claim/cut.py" 653, i 173 0, i 1 0, i 0 0, i 0 0, i 3 0, r 368, b true, i 181 0, r 369, n, n, n, r 370, i 654 0, i 173 0, s "/claim/cut.py" 655]) (N (t []) .nil .nil) .nil) (N (t []) .nil .nil)))))
noncomputable def T1_3 (P : Params) : BT := (N (g "code" [s "PaperError" 198, s "PaperError" 199, s "/claim/cut.py" 200, i 5 0, i 0 0, i 0 0, i 0 0, i 0 0, r 25, b false, i 181 0, r 26, n, n, n, n, i 201 0, i 5 0, s "/claim/cut.py" 202]) (N (k "PaperError.told" (M 2 1) (n) (s "paperhold.errors" 194) 42) (N (g "builtin_function_or_method" [u "type.__prepare__", y "type"]) (N (t [s "self" 347, s "places" 348]) (N (g "getset_descriptor" [s "__dict__" 517, r 266, u "function.__dict__", u "function.__dict__#set"]) (N (k "longer_name" (D 43) (n) (s "paperhold.fields" 718) 522) .nil .nil) .nil) (N (t []) (N (k "layer_head" (D 65) (n) (s "paperhold.layers" 1008) 650) .nil .nil) .nil)) (N (t []) (N (g "code" [s "Shelf" 600, s "Shelf" 601, s "/claim/cut.py" 602, i 155 0, i 0 0, i 0 0, i 0 0, i 0 0, r 329, b false, i 181 0, r 330, n, n, n, n, i 603 0, i 155 0, s "/claim/cut.py" 604]) (N (k "options" (D 53) (n) (s "paperhold.fields" 718) 586) .nil .nil) .nil) (N (g "super" [r 456, r 456, r 456]) (N (g "code" [s "order_rows" 1148, s "order_rows" 1149, s "/claim/cut.py" 1150, i 459 0, i 3 0, i 0 0, i 0 0, i 3 0, r 710, b true, i 181 0, r 711, n, r 712, r 713, r 714, i 1157 0, i 459 0, s "/claim/cut.py" 1158]) .nil .nil) .nil))) (N (g "code" [s "times" 307, s "Decimal.times" 308, s "/claim/cut.py" 309, i 34 0, i 2 0, i 0 0, i 0 0, i 3 0, r 102, b true, i 181 0, r 103, n, r 104, r 105, r 106, i 312 0, i 34 0, s "/claim/cut.py" 313]) (N (g "builtin_function_or_method" [u "object.__init_subclass__", r 167]) (N (f []) (N (g "code" [s "own_widgets" 918, s "own_widgets" 919, s "/claim/cut.py" 920, i 299 0, i 5 0, i 0 0, i 0 0, i 3 0, r 552, b true, i 181 0, r 553, n, n, n, r 554, i 921 0, i 299 0, s "/claim/cut.py" 922]) .nil .nil) .nil) (N (f []) (N (g "super" [r 680, r 680, r 680]) .nil .nil) .nil)) (N (k "Stream.__init__" (M 12 0) (n) (s "paperhold.objects" 391) 234) (N (t [s "self" 646, s "found" 647]) (N (t [s "shelf" 1015, s "head" 1016, s "key" 1017, s "default" 1018, s "found" 1019]) .nil .nil) .nil) (N (t [s "shelf" 836, s "leaf" 837, s "word" 838]) (N (f []) .nil .nil) .nil)))) (N (c "TreeFault" [r 46] [r 59, r 46, y "Exception", y "BaseException", y "object"] 58 [] [some (r 50), none, some (s "TreeFault" 236), some (s "TreeFault" 244), some (u "Exception.__new__"), some (b true)]) (N (t []) (N (h "Decimal.text" (M 6 10)) (N (g "code" [s "told_plain" 531, s "told_plain" 532, s "/claim/cut.py" 533, i 112 0, i 2 0, i 0 0, i 0 0, i 3 0, r 278, b true, i 181 0, r 279, n, r 280, r 281, r 282, i 536 0, i 112 0, s "/claim/cut.py" 537]) (N (f []) .nil .nil) .nil) (N (t []) (N (t []) .nil .nil) .nil)) (N (g "getset_descriptor" [s "__weakref__" 450, r 217, u "ExceptionGroup.__weakref__", n]) (N (t []) (N (t []) .nil .nil) .nil) (N (t []) (N (h "flaws_text" (D 78)) .nil .nil) .nil))) (N (t []) (N (f []) (N (t []) (N (t [s "shelf" 941, s "value" 942]) .nil .nil) .nil) (N (t []) (N (t [s "numbers" 1131, s "config" 1132, s "before" 1133, s "states" 1134, s "number" 1135, s "listed" 1136, s "is_on" 1137]) .nil .nil) .nil)) (N (f []) (N (f []) (N (h "is_group" (D 63)) .nil .nil) .nil) (N (h "row_in" (D 41)) .nil .nil)))))
noncomputable def T1_4 (P : Params) : BT := (N (t [s "k" 190]) (N (t []) (N (t []) (N (k "Decimal.is_whole" (M 6 6) (n) (s "paperhold.decimals" 268) 128) (N (t []) (N (t []) .nil .nil) .nil) (N (t []) (N (t []) .nil .nil) .nil)) (N (t [s "text" 415]) (N (c "Lookup" [y "object"] [r 321, y "object"] 320 [r 375] [none, none, some (s "Lookup" 546), some (s "Lookup" 554), some (u "object.__new__"), some (b true)]) (N (f []) .nil .nil) .nil) (N (t [s "self" 783]) (N (f []) .nil .nil) .nil))) (N (t [s "self" 302, s "other" 303]) (N (t []) (N (k "told" (D 16) (n) (s "paperhold.objects" 391) 288) (N (t []) .nil .nil) .nil) (N (k "home_of" (D 29) (n) (s "paperhold.pagetree" 704) 416) (N (t [s "self" 1088, s "base" 1089, s "on" 1090, s "off" 1091, s "radio" 1092, s "locked" 1093, s "order" 1094, s "words" 1095]) .nil .nil) .nil)) (N (t []) (N (k "Shelf.drop" (M 19 2) (n) (s "paperhold.objects" 391) 352) (N (h "value_faults" (D 57)) .nil .nil) .nil) (N (k "whole_in" (D 37) (n) (s "paperhold.fields" 718) 480) (N (t []) .nil .nil) .nil)))) (N (g "builtin_function_or_method" [u "object.__init_subclass__", r 46]) (N (t []) (N (f []) (N (t [s "value" 527]) (N (g "code" [s "kind_word" 877, s "kind_word" 878, s "/claim/cut.py" 879, i 275 0, i 2 0, i 0 0, i 0 0, i 3 0, r 524, b true, i 181 0, r 525, n, r 526, r 527, r 528, i 885 0, i 275 0, s "/claim/cut.py" 886]) .nil .nil) .nil) (N (t [s "units" 691, s "signs" 692, s "at" 693, s "unit" 694]) (N (g "code" [s "group_numbers" 1060, s "group_numbers" 1061, s "/claim/cut.py" 1062, i 411 0, i 1 0, i 0 0, i 0 0, i 3 0, r 652, b true, i 181 0, r 653, n, r 654, r 655, r 656, i 1064 0, i 411 0, s "/claim/cut.py" 1065]) .nil .nil) .nil)) (N (f []) (N (h "Shelf.put" (M 19 0)) (N (t []) .nil .nil) .nil) (N (h "flag_place" (D 35)) (N (k "layer_faults" (D 74) (n) (s "paperhold.layers" 1008) 720) .nil .nil) .nil))) (N (h "Decimal.negated" (M 6 4)) (N (g "code" [s "sign_text" 384, s "sign_text" 385, s "/claim/cut.py" 386, i 64 0, i 1 0, i 0 0, i 0 0, i 3 0, r 172, b true, i 181 0, r 173, n, r 174, r 175, r 176, i 388 0, i 64 0, s "/claim/cut.py" 389]) (N (t []) (N (k "walked_form" (D 49) (n) (s "paperhold.fields" 718) 560) .nil .nil) .nil) (N (t [s "above" 754, s "head" 755, s "kind" 756, s "name" 757, s "reference" 758, s "widgets" 759]) (N (k "configuration_of" (D 69) (n) (s "paperhold.layers" 1008) 688) .nil .nil) .nil)) (N (g "super" [r 238, r 238, r 238]) (N (f []) (N (f []) .nil .nil) .nil) (N (f []) .nil .nil)))))
noncomputable def T1_5 (P : Params) : BT := (N (t []) (N (h "PaperError.told" (M 2 1)) (N (g "builtin_function_or_method" [u "object.__init_subclass__", r 71]) (N (t []) (N (d [e P "__module__" 493 (s "paperhold.objects" 391), e P "__firstlineno__" 497 (i 82 496), e P "__init__" 506 (r 256), e P "pair" 513 (r 263), e P "__static_attributes__" 516 (r 264), e P "__dict__" 518 (r 267), e P "__weakref__" 520 (r 268), e P "__doc__" 521 (n)] 4) (N (h "longer_name" (D 43)) .nil .nil) .nil) (N (f []) (N (h "layer_head" (D 65)) .nil .nil) .nil)) (N (g "builtin_function_or_method" [u "type.__prepare__", y "type"]) (N (t []) (N (h "options" (D 53)) .nil .nil) .nil) (N (g "getset_descriptor" [s "__dict__" 791, r 456, u "function.__dict__", u "function.__dict__#set"]) (N (t []) .nil .nil) .nil))) (N (t []) (N (g "getset_descriptor" [s "__weakref__" 379, r 167, u "ExceptionGroup.__weakref__", n]) (N (t [n, n]) (N (f []) .nil .nil) .nil) (N (p "frame" [some (r 424), some (r 3), some (r 421), none, some (s "paperhold.fields" 718), none, some (r 0)]) (N (g "getset_descriptor" [s "__dict__" 1107, r 680, u "function.__dict__", u "function.__dict__#set"]) .nil .nil) .nil)) (N (h "Stream.__init__" (M 12 0)) (N (t []) (N (t []) .nil .nil) .nil) (N (t []) (N (k "_law_refs" (D 81) (n) (s "law_og0193_01" 1183) 744) .nil .nil) .nil)))) (N (t []) (N (f []) (N (t [s "self" 362, s "numerals" 363]) (N (t []) (N (k "with_inherited" (D 45) (n) (s "paperhold.fields" 718) 536) .nil .nil) .nil) (N (g "code" [s "text_of" 698, s "text_of" 699, s "/claim/cut.py" 700, i 207 0, i 1 0, i 0 0, i 0 0, i 3 0, r 406, b true, i 181 0, r 407, n, n, n, r 408, i 701 0, i 207 0, s "/claim/cut.py" 702]) (N (g "builtin_function_or_method" [u "type.__prepare__", y "type"]) .nil .nil) .nil)) (N (c "String" [y "object"] [r 217, y "object"] 216 [] [none, none, some (s "String" 424), some (s "String" 432), some (u "object.__new__"), some (b true)]) (N (g "code" [s "add" 620, s "Shelf.add" 621, s "/claim/cut.py" 622, i 160 0, i 2 0, i 0 0, i 0 0, i 3 0, r 340, b true, i 181 0, r 341, n, r 342, r 343, r 344, i 625 0, i 160 0, s "/claim/cut.py" 626]) (N (f []) .nil .nil) .nil) (N (g "code" [s "flag_set" 806, s "flag_set" 807, s "/claim/cut.py" 808, i 248 0, i 2 0, i 0 0, i 0 0, i 3 0, r 468, b true, i 181 0, r 469, n, r 470, r 471, r 472, i 811 0, i 248 0, s "/claim/cut.py" 812]) (N (t []) .nil .nil) .nil))) (N (g "code" [s "compared" 322, s "Decimal.compared" 323, s "/claim/cut.py" 324, i 40 0, i 2 0, i 0 0, i 0 0, i 3 0, r 116, b true, i 181 0, r 117, n, r 118, r 119, r 120, i 327 0, i 40 0, s "/claim/cut.py" 328]) (N (p "frame" [some (r 184), some (r 3), some (r 181), none, some (s "paperhold.objects" 391), none, some (r 0)]) (N (f []) (N (t []) .nil .nil) .nil) (N (g "builtin_function_or_method" [u "type.__prepare__", y "type"]) (N (t []) .nil .nil) .nil)) (N (p "frame" [some (r 248), some (r 3), some (r 245), none, some (s "paperhold.objects" 391), none, some (r 0)]) (N (g "builtin_function_or_method" [u "object.__init_subclass__", r 375]) (N (t [s "shelf" 1036, s "value" 1037, s "found" 1038]) .nil .nil) .nil) (N (t [s "shelf" 853, s "head" 854, s "key" 855, s "row" 856]) .nil .nil)))))
noncomputable def T1_6 (P : Params) : BT := (N (k "_wall" (D 0) (n) (s "__main__" 164) 20) (N (t []) (N (t []) (N (t []) (N (h "Reference.pair" (M 13 1)) (N (t []) .nil .nil) .nil) (N (h "mark_signs" (D 24)) (N (t []) .nil .nil) .nil)) (N (g "getset_descriptor" [s "__weakref__" 419, r 195, u "ExceptionGroup.__weakref__", n]) (N (g "builtin_function_or_method" [u "object.__init_subclass__", r 321]) (N (t []) .nil .nil) .nil) (N (k "FormWalk.__init__" (M 34 0) (n) (s "paperhold.fields" 718) 452) (N (t [i 0 1147]) .nil .nil) .nil))) (N (k "Decimal.minus" (M 6 2) (n) (s "paperhold.decimals" 268) 100) (N (t [s "places" 374, s "top" 375]) (N (t []) (N (h "is_field" (D 47)) .nil .nil) .nil) (N (d [e P "__module__" 736 (s "paperhold.fields" 718), e P "__qualname__" 738 (s "Field" 737), e P "__firstlineno__" 740 (i 228 739), e P "__init__" 753 (r 432), e P "__static_attributes__" 760 (r 433)] 5) (N (k "Configuration.__init__" (M 68 0) (n) (s "paperhold.layers" 1008) 676) .nil .nil) .nil)) (N (t []) (N (t []) (N (f []) .nil .nil) .nil) (N (t []) (N (t []) .nil .nil) .nil)))) (N (t []) (N (h "Decimal.__init__" (M 6 0)) (N (g "code" [s "told" 352, s "Decimal.told" 353, s "/claim/cut.py" 354, i 52 0, i 1 0, i 0 0, i 0 0, i 3 0, r 144, b true, i 181 0, r 145, n, r 146, r 147, r 148, i 356 0, i 52 0, s "/claim/cut.py" 357]) (N (k "kind_of" (D 14) (n) (s "paperhold.objects" 391) 276) (N (t [s "head" 891, s "given" 892, s "found" 893, s "key" 894]) .nil .nil) .nil) (N (k "text_of_units" (D 26) (n) (s "paperhold.outlines" 661) 404) (N (h "purposes" (D 67)) .nil .nil) .nil)) (N (g "code" [s "__init__" 436, s "String.__init__" 437, s "/claim/cut.py" 438, i 74 0, i 3 0, i 0 0, i 0 0, i 3 0, r 208, b true, i 181 0, r 209, n, r 210, r 211, r 212, i 442 0, i 74 0, s "/claim/cut.py" 443]) (N (f []) (N (h "shown_states" (D 55)) .nil .nil) .nil) (N (f []) (N (t []) .nil .nil) .nil))) (N (f []) (N (d [e P "__module__" 402 (s "paperhold.objects" 391), e P "__qualname__" 404 (s "Name" 403), e P "__firstlineno__" 406 (i 68 405), e P "__init__" 414 (r 192), e P "__static_attributes__" 416 (r 193)] 5) (N (h "Lookup.fetch" (M 18 1)) (N (t []) .nil .nil) .nil) (N (g "getset_descriptor" [s "__weakref__" 763, r 435, u "ExceptionGroup.__weakref__", n]) (N (h "configuration" (D 70)) .nil .nil) .nil)) (N (d [e P "__module__" 493 (s "paperhold.objects" 391), e P "__qualname__" 495 (s "Reference" 494), e P "__firstlineno__" 497 (i 82 496), e P "__init__" 506 (r 256), e P "pair" 513 (r 263), e P "__static_attributes__" 516 (r 264)] 6) (N (t []) (N (g "code" [s "items_at" 1023, s "items_at" 1024, s "/claim/cut.py" 1025, i 396 0, i 3 0, i 0 0, i 0 0, i 3 0, r 624, b true, i 181 0, r 625, n, r 626, r 627, r 628, i 1030 0, i 396 0, s "/claim/cut.py" 1031]) .nil .nil) .nil) (N (g "code" [s "form_of" 842, s "form_of" 843, s "/claim/cut.py" 844, i 258 0, i 1 0, i 0 0, i 0 0, i 3 0, r 496, b true, i 181 0, r 497, n, r 498, r 499, r 500, i 847 0, i 258 0, s "/claim/cut.py" 848]) .nil .nil)))))
noncomputable def T1_7 (P : Params) : BT := (N (t [i (-1) 209]) (N (d [e P "__module__" 203 (s "paperhold.errors" 194), e P "__firstlineno__" 207 (i 5 206), e P "__init__" 218 (r 36), e P "told" 225 (r 43), e P "__static_attributes__" 228 (r 44), e P "__weakref__" 230 (r 47), e P "__doc__" 231 (n)] 3) (N (t []) (N (h "Decimal.rounded" (M 6 8)) (N (g "super" [r 266, r 266, r 266]) (N (f []) .nil .nil) .nil) (N (g "code" [s "sign_of" 681, s "sign_of" 682, s "/claim/cut.py" 683, i 185 0, i 1 0, i 0 0, i 0 0, i 3 0, r 392, b true, i 181 0, r 393, n, r 394, r 395, r 396, i 685 0, i 185 0, s "/claim/cut.py" 686]) (N (f []) .nil .nil) .nil)) (N (g "code" [s "String" 426, s "String" 427, s "/claim/cut.py" 428, i 72 0, i 0 0, i 0 0, i 0 0, i 0 0, r 203, b false, i 181 0, r 204, n, n, n, n, i 429 0, i 72 0, s "/claim/cut.py" 430]) (N (t []) (N (f []) .nil .nil) .nil) (N (t []) (N (t []) .nil .nil) .nil))) (N (t []) (N (f []) (N (t []) (N (t []) .nil .nil) .nil) (N (t []) (N (t []) .nil .nil) .nil)) (N (d [e P "__module__" 462 (s "paperhold.objects" 391), e P "__firstlineno__" 466 (i 77 465), e P "__init__" 475 (r 235), e P "__static_attributes__" 478 (r 236), e P "__dict__" 480 (r 239), e P "__weakref__" 482 (r 240), e P "__doc__" 483 (n)] 4) (N (h "Shelf.root" (M 19 4)) (N (h "word_at" (D 61)) .nil .nil) .nil) (N (h "has_flag" (D 39)) (N (g "code" [s "law" 1201, s "law" 1202, s "/claim/cut.py" 1203, i 504 0, i 1 0, i 0 0, i 0 0, i 3 0, r 746, b true, i 181 0, r 747, n, n, n, r 748, i 1204 0, i 504 0, s "/claim/cut.py" 1205]) .nil .nil) .nil)))) (N (g "builtin_function_or_method" [u "object.__init_subclass__", r 59]) (N (g "code" [s "plus" 291, s "Decimal.plus" 292, s "/claim/cut.py" 293, i 28 0, i 2 0, i 0 0, i 0 0, i 3 0, r 88, b true, i 181 0, r 89, n, r 90, r 91, r 92, i 296 0, i 28 0, s "/claim/cut.py" 297]) (N (k "Decimal.text" (M 6 10) (n) (s "paperhold.decimals" 268) 156) (N (t []) (N (t []) .nil .nil) .nil) (N (t [s "shelf" 709, s "value" 710, s "here" 711, s "seen" 712, s "generation" 713, s "found" 714]) (N (g "code" [s "Configuration" 1075, s "Configuration" 1076, s "/claim/cut.py" 1077, i 420 0, i 0 0, i 0 0, i 0 0, i 0 0, r 667, b false, i 181 0, r 668, n, n, n, n, i 1078 0, i 420 0, s "/claim/cut.py" 1079]) .nil .nil) .nil)) (N (g "builtin_function_or_method" [u "object.__init_subclass__", r 217]) (N (t [s "self" 631, s "number" 632]) (N (g "code" [s "node_faults" 982, s "node_faults" 983, s "/claim/cut.py" 984, i 355 0, i 3 0, i 0 0, i 0 0, i 3 0, r 600, b true, i 181 0, r 601, n, r 602, r 603, r 604, i 993 0, i 355 0, s "/claim/cut.py" 994]) .nil .nil) .nil) (N (t [s "shelf" 817, s "head" 818, s "key" 819, s "value" 820]) (N (k "flaws_text" (D 78) (n) (s "paperhold.bureau" 1166) 732) .nil .nil) .nil))) (N (t [s "self" 333]) (N (t []) (N (g "code" [s "get" 579, s "Lookup.get" 580, s "/claim/cut.py" 581, i 153 0, i 3 0, i 0 0, i 0 0, i 3 0, r 312, b true, i 181 0, r 313, n, r 314, r 315, r 316, i 585 0, i 153 0, s "/claim/cut.py" 586]) (N (h "state_in" (D 51)) .nil .nil) .nil) (N (g "code" [s "FormWalk" 770, s "FormWalk" 771, s "/claim/cut.py" 772, i 237 0, i 0 0, i 0 0, i 0 0, i 0 0, r 443, b false, i 181 0, r 444, n, n, n, n, i 773 0, i 237 0, s "/claim/cut.py" 774]) (N (h "starting_states" (D 71)) .nil .nil) .nil)) (N (t []) (N (t []) (N (k "is_group" (D 63) (n) (s "paperhold.layers" 1008) 636) .nil .nil) .nil) (N (k "row_in" (D 41) (n) (s "paperhold.fields" 718) 508) .nil .nil)))))
noncomputable def T1_8 (P : Params) : BT := (N (f []) (N (t [s "self" 213, s "what" 214, s "at" 215]) (N (d [e P "__module__" 259 (s "paperhold.errors" 194), e P "__qualname__" 261 (s "DraftFault" 260), e P "__firstlineno__" 263 (i 16 262), e P "__static_attributes__" 264 (r 69)] 4) (N (g "code" [s "is_whole" 330, s "Decimal.is_whole" 331, s "/claim/cut.py" 332, i 43 0, i 1 0, i 0 0, i 0 0, i 3 0, r 123, b true, i 181 0, r 124, n, r 125, r 126, r 127, i 334 0, i 43 0, s "/claim/cut.py" 335]) (N (k "Reference.__init__" (M 13 0) (n) (s "paperhold.objects" 391) 255) (N (t [s "shelf" 863, s "head" 864, s "word" 865]) .nil .nil) .nil) (N (k "accent_signs" (D 23) (n) (s "paperhold.outlines" 661) 383) (N (t [s "shelf" 1045, s "items" 1046, s "found" 1047, s "item" 1048]) .nil .nil) .nil)) (N (k "Name.__init__" (M 10 0) (n) (s "paperhold.objects" 391) 191) (N (d [e P "__module__" 553 (s "paperhold.objects" 391), e P "__firstlineno__" 557 (i 136 556), e P "__init__" 566 (r 304), e P "fetch" 578 (r 311), e P "get" 587 (r 318), e P "__static_attributes__" 590 (r 319), e P "__dict__" 592 (r 322), e P "__weakref__" 594 (r 323), e P "__doc__" 595 (n)] 4) (N (t []) .nil .nil) .nil) (N (f []) (N (t []) .nil .nil) .nil))) (N (f []) (N (t [s "self" 370]) (N (g "code" [s "told" 539, s "told" 540, s "/claim/cut.py" 541, i 126 0, i 1 0, i 0 0, i 0 0, i 3 0, r 285, b true, i 181 0, r 286, n, n, n, r 287, i 542 0, i 126 0, s "/claim/cut.py" 543]) (N (k "new_node" (D 46) (n) (s "paperhold.fields" 718) 543) .nil .nil) .nil) (N (g "code" [s "home_of" 706, s "home_of" 707, s "/claim/cut.py" 708, i 213 0, i 2 0, i 0 0, i 0 0, i 3 0, r 411, b true, i 181 0, r 412, n, r 413, r 414, r 415, i 715 0, i 213 0, s "/claim/cut.py" 716]) (N (f []) .nil .nil) .nil)) (N (d [e P "__module__" 462 (s "paperhold.objects" 391), e P "__qualname__" 464 (s "Stream" 463), e P "__firstlineno__" 466 (i 77 465), e P "__init__" 475 (r 235), e P "__static_attributes__" 478 (r 236)] 5) (N (g "code" [s "drop" 628, s "Shelf.drop" 629, s "/claim/cut.py" 630, i 163 0, i 2 0, i 0 0, i 0 0, i 3 0, r 347, b true, i 181 0, r 348, n, r 349, r 350, r 351, i 633 0, i 163 0, s "/claim/cut.py" 634]) (N (f []) .nil .nil) .nil) (N (g "code" [s "whole_in" 814, s "whole_in" 815, s "/claim/cut.py" 816, i 250 0, i 3 0, i 0 0, i 0 0, i 3 0, r 475, b true, i 181 0, r 476, n, r 477, r 478, r 479, i 821 0, i 250 0, s "/claim/cut.py" 822]) (N (t [s "tape" 1188, s "many" 1189, s "cells" 1190, s "at" 1191]) .nil .nil) .nil)))) (N (g "super" [r 46, r 46, r 46]) (N (p "frame" [some (r 79), some (r 3), some (r 76), none, some (s "paperhold.decimals" 268), none, some (r 0)]) (N (t []) (N (f []) (N (h "kind_word" (D 44)) .nil .nil) .nil) (N (f []) (N (h "group_numbers" (D 66)) .nil .nil) .nil)) (N (t []) (N (t []) (N (k "on_states" (D 54) (n) (s "paperhold.fields" 718) 591) .nil .nil) .nil) (N (t []) (N (g "code" [s "layer_faults" 1160, s "layer_faults" 1161, s "/claim/cut.py" 1162, i 473 0, i 1 0, i 0 0, i 0 0, i 3 0, r 717, b true, i 181 0, r 718, n, n, n, r 719, i 1163 0, i 473 0, s "/claim/cut.py" 1164]) .nil .nil) .nil))) (N (t []) (N (h "sign_text" (D 7)) (N (k "Lookup.__init__" (M 18 0) (r 297) (s "paperhold.objects" 391) 303) (N (g "code" [s "walked_form" 924, s "walked_form" 925, s "/claim/cut.py" 926, i 304 0, i 1 0, i 0 0, i 0 0, i 3 0, r 557, b true, i 181 0, r 558, n, n, n, r 559, i 927 0, i 304 0, s "/claim/cut.py" 928]) .nil .nil) .nil) (N (k "Field.__init__" (M 33 0) (n) (s "paperhold.fields" 718) 431) (N (g "code" [s "configuration_of" 1114, s "configuration_of" 1115, s "/claim/cut.py" 1116, i 430 0, i 2 0, i 0 0, i 0 0, i 3 0, r 685, b true, i 181 0, r 686, n, n, n, r 687, i 1117 0, i 430 0, s "/claim/cut.py" 1118]) .nil .nil) .nil)) (N (g "getset_descriptor" [s "__weakref__" 481, r 238, u "ExceptionGroup.__weakref__", n]) (N (t []) (N (t []) .nil .nil) .nil) (N (t []) .nil .nil)))))
noncomputable def T1_9 (P : Params) : BT := (N (d [e P "__module__" 203 (s "paperhold.errors" 194), e P "__qualname__" 205 (s "PaperError" 204), e P "__firstlineno__" 207 (i 5 206), e P "__init__" 218 (r 36), e P "told" 225 (r 43), e P "__static_attributes__" 228 (r 44)] 6) (N (t []) (N (g "super" [r 71, r 71, r 71]) (N (k "Decimal.floor" (M 6 7) (n) (s "paperhold.decimals" 268) 135) (N (t [s "generation" 514, s "number" 515]) (N (t []) .nil .nil) .nil) (N (t []) (N (t []) .nil .nil) .nil)) (N (t []) (N (d [e P "__module__" 605 (s "paperhold.objects" 391), e P "__qualname__" 607 (s "Shelf" 606), e P "__firstlineno__" 609 (i 155 608), e P "put" 619 (r 339), e P "add" 627 (r 346), e P "drop" 635 (r 353), e P "numbers" 642 (r 360), e P "root" 650 (r 367), e P "told" 656 (r 372), e P "__static_attributes__" 657 (r 373)] 10) (N (t []) .nil .nil) .nil) (N (c "FormWalk" [y "object"] [r 456, y "object"] 455 [] [none, none, some (s "FormWalk" 768), some (s "FormWalk" 776), some (u "object.__new__"), some (b true)]) (N (t [s "shelf" 1151, s "items" 1152, s "depth" 1153, s "rows" 1154, s "item" 1155, s "inner" 1156]) .nil .nil) .nil))) (N (t [s "self" 310, s "other" 311]) (N (g "getset_descriptor" [s "__dict__" 377, r 167, u "function.__dict__", u "function.__dict__#set"]) (N (p "frame" [some (r 295), some (r 3), some (r 292), none, some (s "paperhold.objects" 391), none, some (r 0)]) (N (t []) .nil .nil) .nil) (N (g "code" [s "Field" 731, s "Field" 732, s "/claim/cut.py" 733, i 228 0, i 0 0, i 0 0, i 0 0, i 0 0, r 422, b false, i 181 0, r 423, n, n, n, n, i 734 0, i 228 0, s "/claim/cut.py" 735]) (N (c "Configuration" [y "object"] [r 680, y "object"] 679 [] [none, none, some (s "Configuration" 1073), some (s "Configuration" 1081), some (u "object.__new__"), some (b true)]) .nil .nil) .nil)) (N (t []) (N (k "Shelf.numbers" (M 19 3) (n) (s "paperhold.objects" 391) 359) (N (k "field_faults" (D 58) (n) (s "paperhold.fields" 718) 615) .nil .nil) .nil) (N (k "flags_of" (D 38) (n) (s "paperhold.fields" 718) 487) (N (g "code" [s "_law_refs" 1195, s "_law_refs" 1196, s "/claim/cut.py" 1197, i 502 0, i 1 0, i 0 0, i 0 0, i 3 0, r 741, b true, i 181 0, r 742, n, n, n, r 743, i 1198 0, i 502 0, s "/claim/cut.py" 1199]) .nil .nil) .nil)))) (N (p "frame" [some (r 55), some (r 3), some (r 52), none, some (s "paperhold.errors" 194), none, some (r 0)]) (N (t []) (N (f []) (N (t [s "kind" 534, s "value" 535]) (N (g "code" [s "with_inherited" 888, s "with_inherited" 889, s "/claim/cut.py" 890, i 284 0, i 2 0, i 0 0, i 0 0, i 3 0, r 531, b true, i 181 0, r 532, n, r 533, r 534, r 535, i 895 0, i 284 0, s "/claim/cut.py" 896]) .nil .nil) .nil) (N (h "text_of" (D 27)) (N (t []) .nil .nil) .nil)) (N (d [e P "__module__" 431 (s "paperhold.objects" 391), e P "__firstlineno__" 435 (i 72 434), e P "__init__" 444 (r 214), e P "__static_attributes__" 447 (r 215), e P "__dict__" 449 (r 218), e P "__weakref__" 451 (r 219), e P "__doc__" 452 (n)] 4) (N (h "Shelf.add" (M 19 1)) (N (t []) .nil .nil) .nil) (N (h "flag_set" (D 36)) (N (k "rows_text" (D 77) (n) (s "paperhold.bureau" 1166) 727) .nil .nil) .nil))) (N (h "Decimal.compared" (M 6 5)) (N (g "code" [s "Name" 397, s "Name" 398, s "/claim/cut.py" 399, i 68 0, i 0 0, i 0 0, i 0 0, i 0 0, r 182, b false, i 181 0, r 183, n, n, n, n, i 400 0, i 68 0, s "/claim/cut.py" 401]) (N (t []) (N (k "text_in" (D 50) (n) (s "paperhold.fields" 718) 567) .nil .nil) .nil) (N (t []) (N (t [n]) .nil .nil) .nil)) (N (g "code" [s "Reference" 488, s "Reference" 489, s "/claim/cut.py" 490, i 82 0, i 0 0, i 0 0, i 0 0, i 0 0, r 246, b false, i 181 0, r 247, n, n, n, n, i 491 0, i 82 0, s "/claim/cut.py" 492]) (N (g "super" [r 375, r 375, r 375]) (N (f []) .nil .nil) .nil) (N (f []) .nil .nil)))))
noncomputable def T1_10 (P : Params) : BT := (N (g "code" [s "_wall" 187, s "_wall" 188, s "/claim/cut.py" 189, i 1 0, i 1 0, i 0 0, i 0 0, i 3 0, r 15, b true, i 181 0, r 16, n, r 17, r 18, r 19, i 191 0, i 1 0, s "/claim/cut.py" 192]) (N (k "PaperError.__init__" (M 2 0) (r 29) (s "paperhold.errors" 194) 35) (N (p "frame" [some (r 67), some (r 3), some (r 64), none, some (s "paperhold.errors" 194), none, some (r 0)]) (N (t [s "self" 340]) (N (t []) (N (k "own_name" (D 42) (n) (s "paperhold.fields" 718) 515) .nil .nil) .nil) (N (t []) (N (k "groups_in" (D 64) (n) (s "paperhold.layers" 1008) 643) .nil .nil) .nil)) (N (g "getset_descriptor" [s "__dict__" 417, r 195, u "function.__dict__", u "function.__dict__#set"]) (N (g "super" [r 321, r 321, r 321]) (N (k "value_in" (D 52) (n) (s "paperhold.fields" 718) 579) .nil .nil) .nil) (N (g "code" [s "__init__" 780, s "FormWalk.__init__" 781, s "/claim/cut.py" 782, i 239 0, i 1 0, i 0 0, i 0 0, i 3 0, r 447, b true, i 181 0, r 448, n, r 449, r 450, r 451, i 784 0, i 239 0, s "/claim/cut.py" 785]) (N (k "crowded_rows" (D 72) (n) (s "paperhold.layers" 1008) 707) .nil .nil) .nil))) (N (g "code" [s "minus" 299, s "Decimal.minus" 300, s "/claim/cut.py" 301, i 31 0, i 2 0, i 0 0, i 0 0, i 3 0, r 95, b true, i 181 0, r 96, n, r 97, r 98, r 99, i 304 0, i 31 0, s "/claim/cut.py" 305]) (N (k "Decimal.least_text" (M 6 11) (n) (s "paperhold.decimals" 268) 163) (N (d [e P "__module__" 553 (s "paperhold.objects" 391), e P "__qualname__" 555 (s "Lookup" 554), e P "__firstlineno__" 557 (i 136 556), e P "__init__" 566 (r 304), e P "fetch" 578 (r 311), e P "get" 587 (r 318), e P "__static_attributes__" 590 (r 319)] 7) (N (t []) .nil .nil) .nil) (N (g "builtin_function_or_method" [u "type.__prepare__", y "type"]) (N (g "code" [s "__init__" 1085, s "Configuration.__init__" 1086, s "/claim/cut.py" 1087, i 422 0, i 8 0, i 0 0, i 0 0, i 3 0, r 671, b true, i 181 0, r 672, n, r 673, r 674, r 675, i 1096 0, i 422 0, s "/claim/cut.py" 1097]) .nil .nil) .nil)) (N (p "frame" [some (r 227), some (r 3), some (r 224), none, some (s "paperhold.objects" 391), none, some (r 0)]) (N (t [s "self" 639]) (N (t []) .nil .nil) .nil) (N (t [s "shelf" 827, s "head" 828, s "flags" 829]) (N (k "_law_draw" (D 80) (n) (s "law_og0193_01" 1183) 739) .nil .nil) .nil)))) (N (d [e P "__module__" 243 (s "paperhold.errors" 194), e P "__qualname__" 245 (s "TreeFault" 244), e P "__firstlineno__" 247 (i 14 246), e P "__static_attributes__" 248 (r 57)] 4) (N (t []) (N (h "Decimal.told" (M 6 9)) (N (g "code" [s "kind_of" 524, s "kind_of" 525, s "/claim/cut.py" 526, i 90 0, i 1 0, i 0 0, i 0 0, i 3 0, r 271, b true, i 181 0, r 272, n, r 273, r 274, r 275, i 528 0, i 90 0, s "/claim/cut.py" 529]) (N (f []) .nil .nil) .nil) (N (g "code" [s "text_of_units" 688, s "text_of_units" 689, s "/claim/cut.py" 690, i 193 0, i 1 0, i 0 0, i 0 0, i 3 0, r 399, b true, i 181 0, r 400, n, r 401, r 402, r 403, i 695 0, i 193 0, s "/claim/cut.py" 696]) (N (f []) .nil .nil) .nil)) (N (h "String.__init__" (M 11 0)) (N (t []) (N (t []) .nil .nil) .nil) (N (t []) (N (t [s "rows" 1173]) .nil .nil) .nil))) (N (t []) (N (g "builtin_function_or_method" [u "type.__prepare__", y "type"]) (N (t []) (N (t [s "shelf" 933, s "value" 934]) .nil .nil) .nil) (N (g "getset_descriptor" [s "__dict__" 761, r 435, u "function.__dict__", u "function.__dict__#set"]) (N (f []) .nil .nil) .nil)) (N (g "builtin_function_or_method" [u "type.__prepare__", y "type"]) (N (k "Shelf.told" (M 19 5) (n) (s "paperhold.objects" 391) 371) (N (h "items_at" (D 62)) .nil .nil) .nil) (N (h "form_of" (D 40)) .nil .nil)))))
noncomputable def T1_11 (P : Params) : BT := (N (p "frame" [some (r 27), some (r 3), some (r 24), none, some (s "paperhold.errors" 194), none, some (r 0)]) (N (t [s "at" 226, s "what" 227]) (N (d [e P "__module__" 277 (s "paperhold.decimals" 268), e P "__qualname__" 279 (s "Decimal" 278), e P "__firstlineno__" 281 (i 19 280), e P "__init__" 290 (r 87), e P "plus" 298 (r 94), e P "minus" 306 (r 101), e P "times" 314 (r 108), e P "negated" 321 (r 115), e P "compared" 329 (r 122), e P "is_whole" 336 (r 129), e P "floor" 343 (r 136), e P "rounded" 351 (r 143), e P "told" 358 (r 150), e P "text" 366 (r 157), e P "least_text" 373 (r 164), e P "__static_attributes__" 376 (r 165)] 16) (N (t []) (N (g "getset_descriptor" [s "__weakref__" 519, r 266, u "ExceptionGroup.__weakref__", n]) (N (t []) .nil .nil) .nil) (N (h "sign_of" (D 25)) (N (t []) .nil .nil) .nil)) (N (f [i 74 0, i 4 0, r 213]) (N (p "frame" [some (r 331), some (r 3), some (r 328), none, some (s "paperhold.objects" 391), none, some (r 0)]) (N (t []) .nil .nil) .nil) (N (g "builtin_function_or_method" [u "object.__init_subclass__", r 456]) (N (k "order_rows" (D 73) (r 709) (s "paperhold.layers" 1008) 715) .nil .nil) .nil))) (N (k "Decimal.times" (M 6 3) (n) (s "paperhold.decimals" 268) 107) (N (t []) (N (t [s "self" 561, s "table" 562, s "trailer" 563]) (N (k "own_widgets" (D 48) (n) (s "paperhold.fields" 718) 555) .nil .nil) .nil) (N (t [s "self" 744, s "name" 745, s "reference" 746, s "above" 747, s "widgets" 748, s "head" 749, s "kind" 750]) (N (g "builtin_function_or_method" [u "object.__init_subclass__", r 680]) .nil .nil) .nil)) (N (t [s "head" 476, s "octets" 477]) (N (t []) (N (t []) .nil .nil) .nil) (N (t []) (N (h "law" (D 82)) .nil .nil) .nil)))) (N (g "super" [r 59, r 59, r 59]) (N (h "Decimal.plus" (M 6 1)) (N (g "code" [s "text" 359, s "Decimal.text" 360, s "/claim/cut.py" 361, i 55 0, i 1 0, i 0 0, i 0 0, i 3 0, r 151, b true, i 181 0, r 152, n, r 153, r 154, r 155, i 364 0, i 55 0, s "/claim/cut.py" 365]) (N (k "told_plain" (D 15) (n) (s "paperhold.objects" 391) 283) (N (t [s "shelf" 901, s "tour" 902, s "value" 903, s "home" 904, s "head" 905]) .nil .nil) .nil) (N (f []) (N (f [i 422 0, i 4 0, r 676]) .nil .nil) .nil)) (N (g "super" [r 217, r 217, r 217]) (N (f []) (N (h "node_faults" (D 56)) .nil .nil) .nil) (N (f []) (N (g "code" [s "flaws_text" 1177, s "flaws_text" 1178, s "/claim/cut.py" 1179, i 493 0, i 1 0, i 0 0, i 0 0, i 3 0, r 729, b true, i 181 0, r 730, n, n, n, r 731, i 1180 0, i 493 0, s "/claim/cut.py" 1181]) .nil .nil) .nil))) (N (f []) (N (t [s "self" 410, s "text" 411]) (N (h "Lookup.get" (M 18 2)) (N (t []) .nil .nil) .nil) (N (f [i 239 0, i 4 0, r 452]) (N (t []) .nil .nil) .nil)) (N (t [s "self" 501, s "number" 502, s "generation" 503]) (N (t []) (N (g "code" [s "is_group" 1033, s "is_group" 1034, s "/claim/cut.py" 1035, i 399 0, i 2 0, i 0 0, i 0 0, i 3 0, r 631, b true, i 181 0, r 632, n, r 633, r 634, r 635, i 1039 0, i 399 0, s "/claim/cut.py" 1040]) .nil .nil) .nil) (N (g "code" [s "row_in" 850, s "row_in" 851, s "/claim/cut.py" 852, i 261 0, i 3 0, i 0 0, i 0 0, i 3 0, r 503, b true, i 181 0, r 504, n, r 505, r 506, r 507, i 857 0, i 261 0, s "/claim/cut.py" 858]) .nil .nil)))))
noncomputable def T1_12 (P : Params) : BT := (N (t []) (N (h "PaperError.__init__" (M 2 0)) (N (f []) (N (t []) (N (f []) (N (h "own_name" (D 42)) .nil .nil) .nil) (N (f []) (N (h "groups_in" (D 64)) .nil .nil) .nil)) (N (d [e P "__module__" 402 (s "paperhold.objects" 391), e P "__firstlineno__" 406 (i 68 405), e P "__init__" 414 (r 192), e P "__static_attributes__" 416 (r 193), e P "__dict__" 418 (r 196), e P "__weakref__" 420 (r 197), e P "__doc__" 421 (n)] 4) (N (g "getset_descriptor" [s "__dict__" 591, r 321, u "function.__dict__", u "function.__dict__#set"]) (N (h "value_in" (D 52)) .nil .nil) .nil) (N (t []) (N (h "crowded_rows" (D 72)) .nil .nil) .nil))) (N (t []) (N (h "Decimal.least_text" (M 6 11)) (N (t []) (N (f []) .nil .nil) .nil) (N (t [s "FT" 720, s "Ff" 721, s "V" 722, s "DV" 723, s "MaxLen" 724, s "Opt" 725]) (N (t []) .nil .nil) .nil)) (N (f [i 79 0, i 4 0, r 234]) (N (t []) (N (g "code" [s "value_faults" 996, s "value_faults" 997, s "/claim/cut.py" 998, i 362 0, i 2 0, i 0 0, i 0 0, i 3 0, r 607, b true, i 181 0, r 608, n, n, n, r 609, i 999 0, i 362 0, s "/claim/cut.py" 1000]) .nil .nil) .nil) (N (t []) (N (h "_law_draw" (D 80)) .nil .nil) .nil)))) (N (t [r 46]) (N (f []) (N (t [s "self" 355]) (N (t []) (N (k "kind_word" (D 44) (n) (s "paperhold.fields" 718) 529) .nil .nil) .nil) (N (t []) (N (k "group_numbers" (D 66) (n) (s "paperhold.layers" 1008) 657) .nil .nil) .nil)) (N (t [s "self" 439, s "octets" 440, s "is_hex" 441]) (N (g "code" [s "put" 610, s "Shelf.put" 611, s "/claim/cut.py" 612, i 157 0, i 4 0, i 0 0, i 0 0, i 3 0, r 333, b true, i 181 0, r 334, n, r 335, r 336, r 337, i 617 0, i 157 0, s "/claim/cut.py" 618]) (N (f []) .nil .nil) .nil) (N (g "code" [s "flag_place" 798, s "flag_place" 799, s "/claim/cut.py" 800, i 243 0, i 1 0, i 0 0, i 0 0, i 3 0, r 461, b true, i 181 0, r 462, n, r 463, r 464, r 465, i 803 0, i 243 0, s "/claim/cut.py" 804]) (N (t []) .nil .nil) .nil))) (N (g "code" [s "negated" 315, s "Decimal.negated" 316, s "/claim/cut.py" 317, i 37 0, i 1 0, i 0 0, i 0 0, i 3 0, r 109, b true, i 181 0, r 110, n, r 111, r 112, r 113, i 319 0, i 37 0, s "/claim/cut.py" 320]) (N (k "sign_text" (D 7) (n) (s "paperhold.decimals" 268) 177) (N (f []) (N (t []) .nil .nil) .nil) (N (d [e P "__module__" 736 (s "paperhold.fields" 718), e P "__firstlineno__" 740 (i 228 739), e P "__init__" 753 (r 432), e P "__static_attributes__" 760 (r 433), e P "__dict__" 762 (r 436), e P "__weakref__" 764 (r 437), e P "__doc__" 765 (n)] 4) (N (t [i (-1) 1121]) .nil .nil) .nil)) (N (g "builtin_function_or_method" [u "object.__init_subclass__", r 238]) (N (h "Shelf.told" (M 19 5)) (N (t [s "shelf" 1026, s "head" 1027, s "key" 1028, s "found" 1029]) .nil .nil) .nil) (N (t [s "shelf" 845, s "form" 846]) .nil .nil)))))
noncomputable def T1_13 (P : Params) : BT := (N (f [i 7 0, i 4 0, r 35, i 12 0, i 4 0, r 42]) (N (g "code" [s "told" 219, s "PaperError.told" 220, s "/claim/cut.py" 221, i 12 0, i 1 0, i 0 0, i 0 0, i 3 0, r 37, b true, i 181 0, r 38, n, r 39, r 40, r 41, i 223 0, i 12 0, s "/claim/cut.py" 224]) (N (t []) (N (f []) (N (c "Reference" [y "object"] [r 266, y "object"] 265 [] [none, none, some (s "Reference" 486), some (s "Reference" 494), some (u "object.__new__"), some (b true)]) (N (g "code" [s "longer_name" 869, s "longer_name" 870, s "/claim/cut.py" 871, i 271 0, i 2 0, i 0 0, i 0 0, i 3 0, r 517, b true, i 181 0, r 518, n, r 519, r 520, r 521, i 874 0, i 271 0, s "/claim/cut.py" 875]) .nil .nil) .nil) (N (t [s "octet" 684]) (N (g "code" [s "layer_head" 1052, s "layer_head" 1053, s "/claim/cut.py" 1054, i 408 0, i 1 0, i 0 0, i 0 0, i 3 0, r 645, b true, i 181 0, r 646, n, r 647, r 648, r 649, i 1057 0, i 408 0, s "/claim/cut.py" 1058]) .nil .nil) .nil)) (N (d [e P "__module__" 431 (s "paperhold.objects" 391), e P "__qualname__" 433 (s "String" 432), e P "__firstlineno__" 435 (i 72 434), e P "__init__" 444 (r 214), e P "__static_attributes__" 447 (r 215)] 5) (N (f [i 157 0, i 4 0, r 338, i 160 0, i 4 0, r 345, i 163 0, i 4 0, r 352, i 166 0, i 4 0, r 359, i 169 0, i 4 0, r 366, i 173 0, i 4 0, r 371]) (N (g "code" [s "options" 952, s "options" 953, s "/claim/cut.py" 954, i 335 0, i 2 0, i 0 0, i 0 0, i 3 0, r 581, b true, i 181 0, r 582, n, r 583, r 584, r 585, i 960 0, i 335 0, s "/claim/cut.py" 961]) .nil .nil) .nil) (N (g "getset_descriptor" [s "__weakref__" 793, r 456, u "ExceptionGroup.__weakref__", n]) (N (h "order_rows" (D 73)) .nil .nil) .nil))) (N (h "Decimal.times" (M 6 3)) (N (g "super" [r 167, r 167, r 167]) (N (t []) (N (h "own_widgets" (D 48)) .nil .nil) .nil) (N (t []) (N (g "getset_descriptor" [s "__weakref__" 1109, r 680, u "ExceptionGroup.__weakref__", n]) .nil .nil) .nil)) (N (g "code" [s "__init__" 467, s "Stream.__init__" 468, s "/claim/cut.py" 469, i 79 0, i 3 0, i 0 0, i 0 0, i 3 0, r 229, b true, i 181 0, r 230, n, r 231, r 232, r 233, i 473 0, i 79 0, s "/claim/cut.py" 474]) (N (f []) (N (f []) .nil .nil) .nil) (N (f []) (N (t []) .nil .nil) .nil)))) (N (d [e P "__module__" 243 (s "paperhold.errors" 194), e P "__firstlineno__" 247 (i 14 246), e P "__static_attributes__" 248 (r 57), e P "__doc__" 249 (n)] 2) (N (t [s "self" 294, s "other" 295]) (N (t []) (N (h "told_plain" (D 15)) (N (t []) .nil .nil) .nil) (N (k "text_of" (D 27) (n) (s "paperhold.outlines" 661) 409) (N (d [e P "__module__" 1080 (s "paperhold.layers" 1008), e P "__qualname__" 1082 (s "Configuration" 1081), e P "__firstlineno__" 1084 (i 420 1083), e P "__init__" 1098 (r 677), e P "__static_attributes__" 1106 (r 678)] 5) .nil .nil) .nil)) (N (g "getset_descriptor" [s "__dict__" 448, r 217, u "function.__dict__", u "function.__dict__#set"]) (N (k "Shelf.add" (M 19 1) (n) (s "paperhold.objects" 391) 345) (N (t [s "shelf" 985, s "home" 986, s "above" 987, s "head" 988, s "parent" 989, s "pair" 990, s "found" 991, s "part" 992]) .nil .nil) .nil) (N (k "flag_set" (D 36) (n) (s "paperhold.fields" 718) 473) (N (f []) .nil .nil) .nil))) (N (k "Decimal.compared" (M 6 5) (n) (s "paperhold.decimals" 268) 121) (N (t []) (N (t [s "self" 582, s "head" 583, s "key" 584]) (N (f []) .nil .nil) .nil) (N (d [e P "__module__" 775 (s "paperhold.fields" 718), e P "__qualname__" 777 (s "FormWalk" 776), e P "__firstlineno__" 779 (i 237 778), e P "__init__" 786 (r 453), e P "__static_attributes__" 790 (r 454)] 5) (N (f []) .nil .nil) .nil)) (N (t []) (N (t []) (N (t []) .nil .nil) .nil) (N (t []) .nil .nil)))))
noncomputable def T1_14 (P : Params) : BT := (N (t [y "Exception"]) (N (f []) (N (d [e P "__module__" 259 (s "paperhold.errors" 194), e P "__firstlineno__" 263 (i 16 262), e P "__static_attributes__" 264 (r 69), e P "__doc__" 265 (n)] 2) (N (h "Decimal.floor" (M 6 7)) (N (g "code" [s "pair" 507, s "Reference.pair" 508, s "/claim/cut.py" 509, i 88 0, i 1 0, i 0 0, i 0 0, i 3 0, r 257, b true, i 181 0, r 258, n, r 259, r 260, r 261, i 511 0, i 88 0, s "/claim/cut.py" 512]) (N (f []) .nil .nil) .nil) (N (g "code" [s "mark_signs" 673, s "mark_signs" 674, s "/claim/cut.py" 675, i 181 0, i 0 0, i 0 0, i 0 0, i 3 0, r 385, b true, i 181 0, r 386, n, r 387, r 388, r 389, i 678 0, i 181 0, s "/claim/cut.py" 679]) (N (f []) .nil .nil) .nil)) (N (g "super" [r 195, r 195, r 195]) (N (t [r 321]) (N (f []) .nil .nil) .nil) (N (t [s "fields" 787, s "nodes" 788, s "seen" 789]) (N (t []) .nil .nil) .nil))) (N (t []) (N (d [e P "__module__" 277 (s "paperhold.decimals" 268), e P "__firstlineno__" 281 (i 19 280), e P "__init__" 290 (r 87), e P "plus" 298 (r 94), e P "minus" 306 (r 101), e P "times" 314 (r 108), e P "negated" 321 (r 115), e P "compared" 329 (r 122), e P "is_whole" 336 (r 129), e P "floor" 343 (r 136), e P "rounded" 351 (r 143), e P "told" 358 (r 150), e P "text" 366 (r 157), e P "least_text" 373 (r 164), e P "__static_attributes__" 376 (r 165), e P "__dict__" 378 (r 168), e P "__weakref__" 380 (r 169), e P "__doc__" 381 (n)] 4) (N (f [i 138 0, i 4 0, r 303, i 142 0, i 4 0, r 310, i 153 0, i 4 0, r 317]) (N (g "code" [s "is_field" 909, s "is_field" 910, s "/claim/cut.py" 911, i 296 0, i 2 0, i 0 0, i 0 0, i 3 0, r 545, b true, i 181 0, r 546, n, r 547, r 548, r 549, i 915 0, i 296 0, s "/claim/cut.py" 916]) .nil .nil) .nil) (N (t []) (N (t [s "base" 1099, s "locked" 1100, s "off" 1101, s "on" 1102, s "order" 1103, s "radio" 1104, s "words" 1105]) .nil .nil) .nil)) (N (f []) (N (h "Shelf.numbers" (M 19 3)) (N (h "field_faults" (D 58)) .nil .nil) .nil) (N (h "flags_of" (D 38)) (N (f []) .nil .nil) .nil)))) (N (f []) (N (g "code" [s "__init__" 282, s "Decimal.__init__" 283, s "/claim/cut.py" 284, i 21 0, i 3 0, i 0 0, i 0 0, i 3 0, r 81, b true, i 181 0, r 82, n, r 83, r 84, r 85, i 288 0, i 21 0, s "/claim/cut.py" 289]) (N (k "Decimal.told" (M 6 9) (n) (s "paperhold.decimals" 268) 149) (N (t []) (N (t []) .nil .nil) .nil) (N (t []) (N (g "code" [s "purposes" 1067, s "purposes" 1068, s "/claim/cut.py" 1069, i 413 0, i 2 0, i 0 0, i 0 0, i 3 0, r 659, b true, i 181 0, r 660, n, n, n, r 661, i 1070 0, i 413 0, s "/claim/cut.py" 1071]) .nil .nil) .nil)) (N (k "String.__init__" (M 11 0) (r 207) (s "paperhold.objects" 391) 213) (N (t [s "self" 623, s "value" 624]) (N (g "code" [s "shown_states" 969, s "shown_states" 970, s "/claim/cut.py" 971, i 348 0, i 3 0, i 0 0, i 0 0, i 3 0, r 593, b true, i 181 0, r 594, n, r 595, r 596, r 597, i 979 0, i 348 0, s "/claim/cut.py" 980]) .nil .nil) .nil) (N (t [s "flags" 809, s "word" 810]) (N (h "rows_text" (D 77)) .nil .nil) .nil))) (N (t [s "self" 325, s "other" 326]) (N (t []) (N (g "code" [s "fetch" 567, s "Lookup.fetch" 568, s "/claim/cut.py" 569, i 142 0, i 2 0, i 0 0, i 0 0, i 3 0, r 305, b true, i 181 0, r 306, n, r 307, r 308, r 309, i 576 0, i 142 0, s "/claim/cut.py" 577]) (N (h "text_in" (D 50)) .nil .nil) .nil) (N (g "super" [r 435, r 435, r 435]) (N (g "code" [s "configuration" 1122, s "configuration" 1123, s "/claim/cut.py" 1124, i 433 0, i 2 0, i 0 0, i 0 0, i 3 0, r 691, b true, i 181 0, r 692, n, n, n, r 693, i 1125 0, i 433 0, s "/claim/cut.py" 1126]) .nil .nil) .nil)) (N (t []) (N (d [e P "__module__" 605 (s "paperhold.objects" 391), e P "__firstlineno__" 609 (i 155 608), e P "put" 619 (r 339), e P "add" 627 (r 346), e P "drop" 635 (r 353), e P "numbers" 642 (r 360), e P "root" 650 (r 367), e P "told" 656 (r 372), e P "__static_attributes__" 657 (r 373), e P "__doc__" 658 (n)] 2) (N (k "items_at" (D 62) (n) (s "paperhold.layers" 1008) 629) .nil .nil) .nil) (N (k "form_of" (D 40) (n) (s "paperhold.fields" 718) 501) .nil .nil)))))
noncomputable def T1_15 (P : Params) : BT := (N (t []) (N (c "PaperError" [y "Exception"] [r 46, y "Exception", y "BaseException", y "object"] 45 [r 59, r 71] [some (r 22), none, some (s "PaperError" 196), some (s "PaperError" 204), some (u "Exception.__new__"), some (b true)]) (N (f [i 21 0, i 4 0, r 86, i 28 0, i 4 0, r 93, i 31 0, i 4 0, r 100, i 34 0, i 4 0, r 107, i 37 0, i 4 0, r 114, i 40 0, i 4 0, r 121, i 43 0, i 4 0, r 128, i 46 0, i 4 0, r 135, i 49 0, i 4 0, r 142, i 52 0, i 4 0, r 149, i 55 0, i 4 0, r 156, i 62 0, i 4 0, r 163]) (N (g "code" [s "rounded" 344, s "Decimal.rounded" 345, s "/claim/cut.py" 346, i 49 0, i 2 0, i 0 0, i 0 0, i 3 0, r 137, b true, i 181 0, r 138, n, r 139, r 140, r 141, i 349 0, i 49 0, s "/claim/cut.py" 350]) (N (g "builtin_function_or_method" [u "object.__init_subclass__", r 266]) (N (t [s "shelf" 880, s "head" 881, s "sort" 882, s "word" 883, s "flags" 884]) .nil .nil) .nil) (N (k "sign_of" (D 25) (n) (s "paperhold.outlines" 661) 397) (N (t [s "shelf" 1063]) .nil .nil) .nil)) (N (p "frame" [some (r 205), some (r 3), some (r 202), none, some (s "paperhold.objects" 391), none, some (r 0)]) (N (f []) (N (h "on_states" (D 54)) .nil .nil) .nil) (N (f []) (N (f []) .nil .nil) .nil))) (N (f []) (N (t [s "number" 387]) (N (h "Lookup.__init__" (M 18 0)) (N (f []) .nil .nil) .nil) (N (h "Field.__init__" (M 33 0)) (N (f []) .nil .nil) .nil)) (N (c "Stream" [y "object"] [r 238, y "object"] 237 [] [none, none, some (s "Stream" 455), some (s "Stream" 463), some (u "object.__new__"), some (b true)]) (N (g "code" [s "root" 643, s "Shelf.root" 644, s "/claim/cut.py" 645, i 169 0, i 1 0, i 0 0, i 0 0, i 3 0, r 361, b true, i 181 0, r 362, n, r 363, r 364, r 365, i 648 0, i 169 0, s "/claim/cut.py" 649]) (N (g "code" [s "word_at" 1012, s "word_at" 1013, s "/claim/cut.py" 1014, i 393 0, i 4 0, i 0 0, i 0 0, i 3 0, r 617, b true, i 181 0, r 618, n, r 619, r 620, r 621, i 1020 0, i 393 0, s "/claim/cut.py" 1021]) .nil .nil) .nil) (N (g "code" [s "has_flag" 833, s "has_flag" 834, s "/claim/cut.py" 835, i 256 0, i 3 0, i 0 0, i 0 0, i 3 0, r 489, b true, i 181 0, r 490, n, r 491, r 492, r 493, i 839 0, i 256 0, s "/claim/cut.py" 840]) (N (k "law" (D 82) (n) (s "law_og0193_01" 1183) 749) .nil .nil) .nil)))) (N (t [r 46]) (N (k "Decimal.plus" (M 6 1) (n) (s "paperhold.decimals" 268) 93) (N (t []) (N (f []) (N (h "new_node" (D 46)) .nil .nil) .nil) (N (t []) (N (p "frame" [some (r 669), some (r 3), some (r 666), none, some (s "paperhold.layers" 1008), none, some (r 0)]) .nil .nil) .nil)) (N (t []) (N (t []) (N (k "node_faults" (D 56) (n) (s "paperhold.fields" 718) 605) .nil .nil) .nil) (N (t []) (N (t []) .nil .nil) .nil))) (N (t []) (N (h "Name.__init__" (M 10 0)) (N (k "Lookup.get" (M 18 2) (n) (s "paperhold.objects" 391) 317) (N (g "code" [s "state_in" 938, s "state_in" 939, s "/claim/cut.py" 940, i 325 0, i 2 0, i 0 0, i 0 0, i 3 0, r 569, b true, i 181 0, r 570, n, r 571, r 572, r 573, i 943 0, i 325 0, s "/claim/cut.py" 944]) .nil .nil) .nil) (N (p "frame" [some (r 445), some (r 3), some (r 442), none, some (s "paperhold.fields" 718), none, some (r 0)]) (N (g "code" [s "starting_states" 1128, s "starting_states" 1129, s "/claim/cut.py" 1130, i 441 0, i 3 0, i 0 0, i 0 0, i 3 0, r 697, b true, i 181 0, r 698, n, r 699, r 700, r 701, i 1138 0, i 441 0, s "/claim/cut.py" 1139]) .nil .nil) .nil)) (N (h "Reference.__init__" (M 13 0)) (N (h "accent_signs" (D 23)) (N (t []) .nil .nil) .nil) (N (t []) .nil .nil)))))
noncomputable def T1 (P : Params) : BT := (N (PySem.W.boot_o_0 P) (N (PySem.W.boot_o_1 P) (N (d [e P "__name__" 165 (s "law_og0193_01" 1183), e P "__doc__" 166 (n), e P "__package__" 167 (n), e P "__loader__" 168 (u "__main__.__loader__#opaque"), e P "__spec__" 169 (n), e P "__annotations__" 170 (r 6), e P "__builtins__" 171 (r 4), e P "__file__" 173 (s "/claim/cut.py" 172), e P "__cached__" 174 (n), e P "_wall" 193 (r 21), e P "PaperError" 235 (r 46), e P "TreeFault" 251 (r 59), e P "DraftFault" 267 (r 71), e P "Decimal" 383 (r 167), e P "sign_text" 390 (r 178), e P "MOST_HOPS" 394 (i 30 393), e P "Name" 423 (r 195), e P "String" 454 (r 217), e P "Stream" 485 (r 238), e P "Reference" 523 (r 266), e P "kind_of" 530 (r 277), e P "told_plain" 538 (r 284), e P "told" 544 (r 289), e P "told_objects" 545 (r 289), e P "Lookup" 597 (r 321), e P "Shelf" 660 (r 375), e P "MARK" 664 (Value.bytes #[254, 255] 663), e P "UNKNOWN" 666 (i 65533 665), e P "accent_signs" 672 (r 384), e P "mark_signs" 680 (r 391), e P "sign_of" 687 (r 398), e P "text_of_units" 697 (r 405), e P "text_of" 703 (r 410), e P "home_of" 717 (r 417), e P "INHERITED_KEYS" 726 (r 418), e P "OFF" 728 (s "Off" 727), e P "Field" 767 (r 435), e P "FormWalk" 797 (r 456), e P "flag_place" 805 (r 467), e P "flag_set" 813 (r 474), e P "whole_in" 823 (r 481), e P "flags_of" 832 (r 488), e P "has_flag" 841 (r 495), e P "form_of" 849 (r 502), e P "row_in" 859 (r 509), e P "own_name" 868 (r 516), e P "longer_name" 876 (r 523), e P "kind_word" 887 (r 530), e P "with_inherited" 897 (r 537), e P "new_node" 908 (r 544), e P "is_field" 917 (r 551), e P "own_widgets" 923 (r 556), e P "walked_form" 929 (r 561), e P "text_in" 937 (r 568), e P "state_in" 945 (r 575), e P "value_in" 951 (r 580), e P "options" 962 (r 587), e P "on_states" 968 (r 592), e P "shown_states" 981 (r 599), e P "node_faults" 995 (r 606), e P "value_faults" 1001 (r 611), e P "field_faults" 1007 (r 616), e P "MOST_NESTED" 1011 (i 20 1010), e P "word_at" 1022 (r 623), e P "items_at" 1032 (r 630), e P "is_group" 1041 (r 637), e P "groups_in" 1051 (r 644), e P "layer_head" 1059 (r 651), e P "group_numbers" 1066 (r 658), e P "purposes" 1072 (r 663), e P "Configuration" 1113 (r 680), e P "configuration_of" 1119 (r 689), e P "configuration" 1127 (r 695), e P "starting_states" 1140 (r 703), e P "crowded_rows" 1146 (r 708), e P "order_rows" 1159 (r 716), e P "layer_faults" 1165 (r 721), e P "NOTHING" 1169 (s "none" 1168), e P "rows_text" 1176 (r 728), e P "flaws_text" 1182 (r 733), e P "_law_draw" 1194 (r 740), e P "_law_refs" 1200 (r 745), e P "law" 1206 (r 750)] 83) (N (PySem.W.boot_o_7 P) (T1_0 P) (T1_1 P)) (N (t []) (T1_2 P) (T1_3 P))) (N (PySem.W.boot_o_5 P) (N (PySem.W.boot_o_9 P) (T1_4 P) (T1_5 P)) (N (g "code" [s "<module>" 182, s "<module>" 183, s "/claim/cut.py" 184, i 1 0, i 0 0, i 0 0, i 0 0, i 0 0, r 11, b false, i 181 0, r 12, n, n, n, n, i 185 0, i 1 0, s "/claim/cut.py" 186]) (T1_6 P) (T1_7 P)))) (N (d0 [e P "type.__subclasses__.Exception.0" 232 (i 46 0), e P "type.__subclasses__.Exception.n" 233 (i 1 0)] 2) (N (PySem.W.boot_o_4 P) (N (PySem.W.boot_o_8 P) (T1_8 P) (T1_9 P)) (N (f [i 1 0, i 0 0, r 20, i 5 0, i 0 0, r 27, i 14 0, i 0 0, r 55, i 16 0, i 0 0, r 67, i 19 0, i 0 0, r 79, i 64 0, i 0 0, r 177, i 68 0, i 0 0, r 184, i 72 0, i 0 0, r 205, i 77 0, i 0 0, r 227, i 82 0, i 0 0, r 248, i 90 0, i 0 0, r 276, i 112 0, i 0 0, r 283, i 126 0, i 0 0, r 288, i 136 0, i 0 0, r 295, i 155 0, i 0 0, r 331, i 179 0, i 0 0, r 383, i 181 0, i 0 0, r 390, i 185 0, i 0 0, r 397, i 193 0, i 0 0, r 404, i 207 0, i 0 0, r 409, i 213 0, i 0 0, r 416, i 228 0, i 0 0, r 424, i 237 0, i 0 0, r 445, i 243 0, i 0 0, r 466, i 248 0, i 0 0, r 473, i 250 0, i 0 0, r 480, i 253 0, i 0 0, r 487, i 256 0, i 0 0, r 494, i 258 0, i 0 0, r 501, i 261 0, i 0 0, r 508, i 268 0, i 0 0, r 515, i 271 0, i 0 0, r 522, i 275 0, i 0 0, r 529, i 284 0, i 0 0, r 536, i 289 0, i 0 0, r 543, i 296 0, i 0 0, r 550, i 299 0, i 0 0, r 555, i 304 0, i 0 0, r 560, i 322 0, i 0 0, r 567, i 325 0, i 0 0, r 574, i 328 0, i 0 0, r 579, i 335 0, i 0 0, r 586, i 344 0, i 0 0, r 591, i 348 0, i 0 0, r 598, i 355 0, i 0 0, r 605, i 362 0, i 0 0, r 610, i 378 0, i 0 0, r 615, i 393 0, i 0 0, r 622, i 396 0, i 0 0, r 629, i 399 0, i 0 0, r 636, i 402 0, i 0 0, r 643, i 408 0, i 0 0, r 650, i 411 0, i 0 0, r 657, i 413 0, i 0 0, r 662, i 420 0, i 0 0, r 669, i 430 0, i 0 0, r 688, i 433 0, i 0 0, r 694, i 441 0, i 0 0, r 702, i 453 0, i 0 0, r 707, i 459 0, i 0 0, r 715, i 473 0, i 0 0, r 720, i 491 0, i 0 0, r 727, i 493 0, i 0 0, r 732, i 498 0, i 0 0, r 739, i 502 0, i 0 0, r 744, i 504 0, i 0 0, r 749]) (T1_10 P) (T1_11 P))) (N (PySem.W.boot_o_6 P) (N (PySem.W.boot_o_10 P) (T1_12 P) (T1_13 P)) (N (p "frame" [some (r 13), some (r 3), some (r 3), none, some (s "__main__" 164), none, some (r 0)]) (T1_14 P) (T1_15 P)))))
end Mine.H
end
section
set_option maxRecDepth 100000
set_option maxHeartbeats 0
namespace Mine.H
open PySem PySem.W PyProof.Rows
noncomputable abbrev pw : Program := (OpenRow.toRowW (OpenLaw.row PySem.Challenge.rw_og0193_01)).1
noncomputable def env : Env := { scope := pw.main.scope, locals := mainNs, globals := mainNs, cells := [], code := .ref 13, frame := some 14 }
noncomputable def B : List Stmt := behindTheImports pw
noncomputable def z : Pos := ⟨0, 0, 0, 0⟩
noncomputable abbrev cB : Code := Code.body B env
noncomputable def q1 : Pos := ⟨504, 0, 537, 87⟩
noncomputable abbrev an : Option Value := some (.ref 6)
set_option tactic.hygienic false in
theorem run1 (w : World) (os : OsState) : segRunT treeTable pw w 11 an 1 6000 ⟨T0 w.params, 15, {}, ⟨[]⟩, {}, 187, os⟩ (piecesOf B env cB z [topFrame z]) = some (.next, ⟨T1 w.params, 751, {}, ⟨[]⟩, {}, 1207, os⟩, cB, q1) := by
  have e1 : @segRunT = @PySem.W.Fast.tw10110043849684766642 := PySem.W.Fast.te10110043849684766642
  have e2 : treeTable = PySem.W.Fast.tw14364793385576792824 := PySem.W.Fast.te14364793385576792824
  rw [e1, e2]
  kernel_rfl
set_option tactic.hygienic false in
theorem run0 (w : World) (os : OsState) : topGo treeTable pw w 11 an 12 ⟨boot_heap w.params, ⟨[]⟩, boot_drawn, boot_toks, os⟩ (topStub pw) = some (⟨absHeap (T0 w.params) 15 {}, ⟨[]⟩, {}, 187, os⟩, ⟨denote treeTable cB, cB, z, [topFrame z]⟩) := by
  have e1 : @topGo = @PySem.W.Fast.tw15667345088766844465 := PySem.W.Fast.te15667345088766844465
  have e2 : treeTable = PySem.W.Fast.tw14364793385576792824 := PySem.W.Fast.te14364793385576792824
  have e3 : @denote = @PySem.W.Fast.tw11892475500146522536 := PySem.W.Fast.te11892475500146522536
  rw [e1, e2, e3]
  kernel_rfl
set_option tactic.hygienic false in
theorem runB (w : World) (os : OsState) : segRun treeTable pw w 11 an 1 1 ⟨absHeap (T0 w.params) 15 {}, ⟨[]⟩, {}, 187, os⟩ (blockOf B env cB z [topFrame z]) = some (.next, ⟨absHeap (T0 w.params) 15 {}, ⟨[]⟩, {}, 187, os⟩, cB, z) := by
  kernel_rfl
set_option tactic.hygienic false in
theorem runF (w : World) (os : OsState) : topRun treeTable pw w 11 an 2 ⟨absHeap (T1 w.params) 751 {}, ⟨[]⟩, {}, 1207, os⟩ ⟨doneF .next, cB, q1, [topFrame z]⟩ = some ⟨absHeap (T1 w.params) 751 {}, ⟨[]⟩, {}, 1207, os⟩ := by
  have e1 : @topRun = @PySem.W.Fast.tw14082659384304107361 := PySem.W.Fast.te14082659384304107361
  have e2 : treeTable = PySem.W.Fast.tw14364793385576792824 := PySem.W.Fast.te14364793385576792824
  rw [e1, e2]
  kernel_rfl
end Mine.H
end
section
set_option maxRecDepth 100000
set_option maxHeartbeats 0
namespace Mine.H
open PySem PySem.W PyProof.Rows
noncomputable abbrev rw_ : RowW := OpenRow.toRowW (OpenLaw.row PySem.Challenge.rw_og0193_01)
noncomputable def H1 (P : Params) : Heap := absHeap (T1 P) 751 {}
noncomputable def q : Program := view pw [82]
noncomputable def loose : List Str := pw.boundNames.filter fun x => !Mine.sEq x "law"
noncomputable abbrev S1 (w : World) (os : OsState) : Shared := ⟨H1 w.params, ⟨[]⟩, {}, 1207, os⟩
noncomputable abbrev Xt (s : Shared) : Bool := xlAt q [] s && recOk (RowW.records rw_) s
set_option tactic.hygienic false in
theorem size1 (w : World) : ((boot_heap w.params).isNs mainGlobals && (⟨[]⟩ : Array GenState).size == 0, (boot_heap w.params).objs.size, (boot_heap w.params).nsMap mainGlobals "__annotations__") = (true, 11, an) := by kernel_rfl
set_option tactic.hygienic false in
theorem k1 (w : World) : staticsOk (importedModules pw.main.body) (boot_heap w.params) (H1 w.params) = true := by kernel_rfl
set_option tactic.hygienic false in
theorem k2 (w : World) : namesBound pw (H1 w.params) = true := by kernel_rfl
set_option tactic.hygienic false in
theorem k3 (w : World) (os : OsState) : gensDone (S1 w os) = true := by kernel_rfl
set_option tactic.hygienic false in
theorem k4 (w : World) : laidKept (boot_heap w.params) (H1 w.params) = true := by kernel_rfl
set_option tactic.hygienic false in
theorem m1 (w : World) (os : OsState) : seen ((recsOf q).map (·.name)) (ownsOf q) [] { S1 w os with gens := #[] } = expectedOf q := by kernel_rfl
set_option tactic.hygienic false in
theorem m2 (w : World) (os : OsState) : (S1 w os).heap.bltView = bltViewBooted := by kernel_rfl
set_option tactic.hygienic false in
theorem m3 (w : World) (os : OsState) : (S1 w os).heap.keysOk (looseW q loose) ((recsOf q).map (·.name)) ((litsOf q).map (·.1)) ((clssOf q (looseW q loose)).map (·.name)) = true := by kernel_rfl
set_option tactic.hygienic false in
theorem m4 (w : World) (os : OsState) : (S1 w os).heap.accountedOkI (importedModules pw.main.body) = true := by kernel_rfl
set_option tactic.hygienic false in
theorem m5 (w : World) (os : OsState) : ((S1 w os).heap.isNs mainGlobals && (S1 w os).heap.isNs builtinsNs) = true := by kernel_rfl
set_option tactic.hygienic false in
theorem m6 (w : World) (os : OsState) : tablesOk q (S1 w os).heap = true := by kernel_rfl
set_option tactic.hygienic false in
theorem m7 (w : World) (os : OsState) : Xt (S1 w os) = true := by kernel_rfl
set_option tactic.hygienic false in
theorem m8 (w : World) (os : OsState) : tabsOk q (S1 w os) = true := by kernel_rfl
set_option tactic.hygienic false in
theorem m9 (w : World) (os : OsState) : pinSeenD q (drecsOf q) (S1 w os) = pinGoodD (drecsOf q) := by kernel_rfl
set_option tactic.hygienic false in
theorem m10 (w : World) (os : OsState) : plainSeenE q (looseW q loose) (S1 w os) = plainGoodE q (looseW q loose) := by kernel_rfl
set_option tactic.hygienic false in
theorem m11 (w : World) (os : OsState) : plainSeenD q loose (S1 w os) = plainGoodD q loose := by kernel_rfl
set_option tactic.hygienic false in
theorem m12 (w : World) (os : OsState) : wideSeen q (S1 w os) = wideGood q := by kernel_rfl
set_option tactic.hygienic false in
theorem m13 (w : World) (os : OsState) : clsSeenW q loose (S1 w os) = clsGoodW q loose := by kernel_rfl
end Mine.H
end
section
set_option maxRecDepth 100000
set_option maxHeartbeats 0
namespace Mine.H
open PySem PySem.W PyProof.Rows
set_option tactic.hygienic false in
theorem run (w : World) (os : OsState) : topRun treeTable pw w 11 an (12 + (1 + (6000 + 2))) ⟨boot_heap w.params, ⟨[]⟩, boot_drawn, boot_toks, os⟩ (topStub pw) = some (S1 w os) := by
  have a := segRun_of (run1 w os)
  refine go_top (run0 w os) (piece_block (b := B) (runB w os) ?_)
  have := piece_app (rest := []) a (piece_nil (runF w os))
  rw [List.append_nil] at this
  exact this
set_option tactic.hygienic false in
theorem left : LeftO pw q loose Xt (fun s => s.heap) (fun w => H1 w.params) 10764 true := by
  refine LeftO.of_pieces (H₀ := boot_heap) (H₁ := H1) (boot_open (by kernel_rfl) (by decide) (fun s => by kernel_rfl)) size1 run (by decide) fun w => funext fun os => ?_
  have e : openSeen q loose (importedModules pw.main.body) Xt true (S1 w os) = openGood q loose := by
    have h3 := m3 w os
    have h4 := m4 w os
    have h5 := m5 w os
    have h6 := m6 w os
    have h7 := m7 w os
    have hb : ((S1 w os).heap.keysOk (looseW q loose) ((recsOf q).map (·.name)) ((litsOf q).map (·.1)) ((clssOf q (looseW q loose)).map (·.name)) && (S1 w os).heap.accountedOkI (importedModules pw.main.body) && (S1 w os).heap.isNs mainGlobals && (S1 w os).heap.isNs builtinsNs && tablesOk q (S1 w os).heap && Xt (S1 w os) && (if true then (S1 w os).gens.size == 0 else !leftWithCleanup (S1 w os).gens)) = true := by
      obtain ⟨h5a, h5b⟩ := Bool.and_eq_true_iff.mp h5
      rw [h3, h4, h5a, h5b, h6, h7]; rfl
    unfold openSeen openGood
    rw [m1 w os, m2 w os, hb, m8 w os, m9 w os, m10 w os, m11 w os, m12 w os, m13 w os]
  have l : (staticsOk (importedModules pw.main.body) (boot_heap w.params) (H1 w.params) && namesBound pw (H1 w.params) && gensDone (S1 w os) && laidKept (boot_heap w.params) (H1 w.params)) = true := by
    rw [k1, k2, k3, k4]; rfl
  exact Prod.ext l (Prod.ext e rfl)
set_option tactic.hygienic false in
theorem looks : looksOpen PySem.Challenge.rw_og0193_01.row.prog = true := by
  delta looksOpen
  rw [PySem.W.Fast.te8326940854005059898]
  refine look_both (look_both ?_ ?_) (PySem.W.Fast.te17119622794617984870 ▸ ?_) <;> decide +kernel
set_option tactic.hygienic false in
theorem said : PySem.Challenge.rw_og0193_01.wellSaid = true := by
  delta OpenLaw.wellSaid OpenRow.wellSaid OpenRow.partSaid
  rw [looks, PySem.W.Fast.te8326940854005059898]
  decide +kernel
theorem head (call : ∀ d kwd, d.name = Str.ofString "law" → WalkX q loose (XL q []) (fun s => s.heap) (fun w => H1 w.params) (OpenRow.toRowW (OpenLaw.row PySem.Challenge.rw_og0193_01)) d kwd fun f vs => PySem.call f vs) : PySem.Challenge.rw_og0193_01.Holds :=
  holds_law said fun ok => holds_openX (r := OpenLaw.row PySem.Challenge.rw_og0193_01) left (fun s e => xl_of s (Bool.and_eq_true_iff.mp e).1) XL.keeps rfl rfl rfl (fun s e => recFacts_of (Bool.and_eq_true_iff.mp e).2) rfl ok (by decide +kernel) ⟨rfl, rfl, rfl, rfl, rfl, by decide +kernel⟩ ⟨[WData.list []], by decide +kernel, by decide +kernel⟩ (call _ _ rfl)
end Mine.H
end
section
set_option maxRecDepth 100000
set_option maxHeartbeats 0
namespace Mine.H
open PySem PySem.W PyProof.Rows
noncomputable def as1 : List Nat := List.range 751
noncomputable def K (P : Params) : Frag := as1.map fun a => (a, ((T1 P).get a).getD default)
noncomputable def okAt (t : BT) (a : Nat) : Bool := match t.get a with
  | some o => (alive o).isSome
  | none => false
theorem lookup_map {f : Nat → Obj} {a : Nat} {o : Obj} : ∀ {l : List Nat}, (l.map fun a => (a, f a)).lookup a = some o → a ∈ l ∧ o = f a
  | [], h => by cases h
  | b :: l, h => by
    rw [List.map_cons, List.lookup_cons] at h
    split at h
    · rename_i e
      have := beq_iff_eq.mp e
      subst this
      first | exact nn h | exact nf h | cases h
      exact ⟨.head _, rfl⟩
    · exact ⟨.tail _ (lookup_map h).1, (lookup_map h).2⟩
set_option tactic.hygienic false in
theorem alive_some {o : Obj} (h : (alive o).isSome = true) : alive o = some o := by
  obtain ⟨c, d, dt, s⟩ := o
  cases dt <;> first | rfl | first | exact nn h | exact nf h | cases h
set_option tactic.hygienic false in
theorem all_ok (P : Params) : (as1.all (okAt (T1 P))) = true := by kernel_rfl
set_option tactic.hygienic false in
theorem kin (P : Params) {h : Heap} (x : ∀ b o, (H1 P).get? b = some o → h.get? b = some o) : (K P).In h := by
  intro a o e
  obtain ⟨m, rfl⟩ := lookup_map e
  have q := List.all_eq_true.mp (all_ok P) a m
  have lt : a < 751 := List.mem_range.mp m
  refine x _ _ ?_
  unfold okAt at q
  cases g : (T1 P).get a with
  | none => rw [g] at q; first | exact nn q | exact nf q | cases q
  | some o =>
    rw [g] at q
    have : (H1 P).get? a = alive o := abs_get lt g
    rw [this]
    exact alive_some q
open Mine in
set_option tactic.hygienic false in
theorem chk (P : Params) : Chk (K P) where
  glob := by kernel_rfl
  fld := by kernel_rfl
  meth := by kernel_rfl
  fn := by kernel_rfl
  init := by kernel_rfl
  isi := by kernel_rfl
  head := by kernel_rfl
  code := by intro f _; unfold CodeIs; cases f <;> kernel_rfl
end Mine.H
end
section
set_option maxRecDepth 100000
set_option maxHeartbeats 0
namespace Mine.H
open PySem PySem.W PyProof.Rows
set_option tactic.hygienic false in
theorem ints_rep {B : Base} {Z : Addr → Prop} {h : Heap} : ∀ {vs : List Value} {xs : List Int}, IntsAre vs xs → RepL B Z h (xs.map .int) vs := by
  intro vs xs hh
  induction hh with
  | nil => rfl
  | cons n t r ih => exact ⟨_, _, rfl, ⟨t, rfl⟩, ih⟩
set_option tactic.hygienic false in
theorem pc_ret {B : Base} {g : Gh} {σ σ' : Sg} {s s' : Shared} {a : AV} {r : Result} (h : PC B g σ s a σ' r s') : ∃ v, r = .ok (.ret v) ∧ PE B g σ s a σ' v s' := by
  cases r with
  | error e => exact h.elim
  | ok f => cases f <;> first | exact ⟨_, rfl, h⟩ | exact h.elim
theorem walk (d : DefRec) (kwd : List (Str × Expr)) (hn : d.name = Str.ofString "law") : WalkX q loose (XL q []) (fun s => s.heap) (fun w => H1 w.params) (OpenRow.toRowW (OpenLaw.row PySem.Challenge.rw_og0193_01)) d kwd fun f vs => PySem.call f vs := by
  intro w s₀ s₁ mg mb G Y fa o pm cd doc dV kV ho hd hcd hD hmg hg args vals as L hpre hlay hrd hwl hlo
  have X : (K w.params).In s₁.heap := kin w.params fun b o e => L.keeps b o (by rw [show s₀.heap = H1 w.params from Y]; exact e)
  have T := G.T
  wrow_args hpre hlay hrd hwl hlo
  rename_i xs _ _ _ _ _ _ _ a vs _ hL _ _ _ hI _ hlen _
  refine enter_call ?_
  refine codeAny_mono ?_ (fun _ _ g => GoodW.toG g)
  have hx : xs.length ≤ 63 := by omega
  let B : Base := ⟨(OpenLaw.row PySem.Challenge.rw_og0193_01).prog, w, K w.params, faL, caL, s₁.heap⟩
  have W : Facts B := facts_of X T.g T.b T.nolimit T.builtins (chk w.params)
  have hfa : fa = faL .law := by
    have h := mg_of X T.g (n := Str.ofString "law") (v := .ref 750) (by kernel_rfl)
    rw [hn, h] at hmg
    cases hmg; rfl
  subst hfa
  obtain ⟨σ, e⟩ := law_ok 0 xs hx
  have hpl : s₁.heap.PlainList a vs.toArray := ⟨_, PySem.W.X.script_obj L hL⟩
  let g : Gh := ⟨fun b => b < s₁.heap.objs.size, fun _ => 0, fun _ => 0⟩
  have I : Inv B g [] s₁.heap := {
    sm := Heap.lt_size (X sysModules (((T1 w.params).get sysModules).getD default) (by kernel_rfl))
    stays := fun _ _ h => h
    zbase := fun b o h => Heap.lt_size h
    zlt := fun _ h => h
    obj := fun i o h => by cases h
    inj := fun i j b h => by cases h
    nz := fun i b h => by cases h }
  have av : AVals B g s₁.heap [] [.t (intsT xs)] [.ref a] := ⟨.ref a, [], rfl, ⟨a, vs, rfl, Heap.lt_size hpl.choose_spec, hpl, ints_rep hI⟩, rfl⟩
  have S := (snd_run W 80).c .law [.t (intsT xs)] [] _ σ e callerA g s₁ [.ref a] ⟨by decide, by decide, rfl⟩ I av
  refine codeAny_mono S fun res s' h => ?_
  obtain ⟨v, rfl, h⟩ := pc_ret h
  obtain ⟨g', x, I', av', r⟩ := h
  have hv : v = .bool true := av'
  subst hv
  exact ⟨.inl ⟨.bool true, .bool true, [], rfl, raisesW_false (fun ct hct => by cases hct), .bool true, by kernel_rfl, unshared_nil⟩, fun b o hb => x.keep b o hb (fun q => by obtain ⟨i, q⟩ := q; cases q) (fun q => q), r.2.2, r.1.trans hg⟩
end Mine.H
end
theorem PySem.Challenge.cw_og0193_01_holds : PySem.Challenge.rw_og0193_01.Holds :=
  Mine.H.head Mine.H.walk
