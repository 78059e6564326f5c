import PyProof.Rows.All
import Wide.All
import OpenK.AllK
import Wide.FinOn
import Lean
import PySem.Challenge.RW_nu0385_01
set_option Elab.async false
set_option maxRecDepth 100000
set_option linter.unusedVariables false
set_option linter.unusedSimpArgs false
namespace Mine
open PySem
theorem Cp {G : Prop} (h : ∀ P : Prop,(G→P)→P) : G:=h G id
theorem E11 {α0 : Type} {A : α0→Prop} {Z : Prop} (h : ∃ x0,A x0) (c : ∀ x0,A x0→Z) : Z:=h.elim c
theorem E21 {α0 α1 : Type} {A : α0→α1→Prop} {Z : Prop} (h : ∃ x0 x1,A x0 x1) (c : ∀ x0 x1,A x0 x1→Z) : Z:=h.elim fun x h=>E11 h (c x)
theorem E31 {α0 α1 α2 : Type} {A : α0→α1→α2→Prop} {Z : Prop} (h : ∃ x0 x1 x2,A x0 x1 x2) (c : ∀ x0 x1 x2,A x0 x1 x2→Z) : Z:=h.elim fun x h=>E21 h (c x)
theorem E41 {α0 α1 α2 α3 : Type} {A : α0→α1→α2→α3→Prop} {Z : Prop} (h : ∃ x0 x1 x2 x3,A x0 x1 x2 x3) (c : ∀ x0 x1 x2 x3,A x0 x1 x2 x3→Z) : Z:=h.elim fun x h=>E31 h (c x)
theorem E51 {α0 α1 α2 α3 α4 : Type} {A : α0→α1→α2→α3→α4→Prop} {Z : Prop} (h : ∃ x0 x1 x2 x3 x4,A x0 x1 x2 x3 x4) (c : ∀ x0 x1 x2 x3 x4,A x0 x1 x2 x3 x4→Z) : Z:=h.elim fun x h=>E41 h (c x)
theorem E02 {A B : Prop} {Z : Prop} (h : A∧B) (c : A→B→Z) : Z:=c h.1 h.2
theorem E12 {α0 : Type} {A B : α0→Prop} {Z : Prop} (h : ∃ x0,A x0∧B x0) (c : ∀ x0,A x0→B x0→Z) : Z:=h.elim fun x h=>E02 h (c x)
theorem E22 {α0 α1 : Type} {A B : α0→α1→Prop} {Z : Prop} (h : ∃ x0 x1,A x0 x1∧B x0 x1) (c : ∀ x0 x1,A x0 x1→B x0 x1→Z) : Z:=h.elim fun x h=>E12 h (c x)
theorem E32 {α0 α1 α2 : Type} {A B : α0→α1→α2→Prop} {Z : Prop} (h : ∃ x0 x1 x2,A x0 x1 x2∧B x0 x1 x2) (c : ∀ x0 x1 x2,A x0 x1 x2→B x0 x1 x2→Z) : Z:=h.elim fun x h=>E22 h (c x)
theorem E42 {α0 α1 α2 α3 : Type} {A B : α0→α1→α2→α3→Prop} {Z : Prop} (h : ∃ x0 x1 x2 x3,A x0 x1 x2 x3∧B x0 x1 x2 x3) (c : ∀ x0 x1 x2 x3,A x0 x1 x2 x3→B x0 x1 x2 x3→Z) : Z:=h.elim fun x h=>E32 h (c x)
theorem E03 {A B C : Prop} {Z : Prop} (h : A∧B∧C) (c : A→B→C→Z) : Z:=c h.1 h.2.1 h.2.2
theorem E13 {α0 : Type} {A B C : α0→Prop} {Z : Prop} (h : ∃ x0,A x0∧B x0∧C x0) (c : ∀ x0,A x0→B x0→C x0→Z) : Z:=h.elim fun x h=>E03 h (c x)
theorem E23 {α0 α1 : Type} {A B C : α0→α1→Prop} {Z : Prop} (h : ∃ x0 x1,A x0 x1∧B x0 x1∧C x0 x1) (c : ∀ x0 x1,A x0 x1→B x0 x1→C x0 x1→Z) : Z:=h.elim fun x h=>E13 h (c x)
theorem E33 {α0 α1 α2 : Type} {A B C : α0→α1→α2→Prop} {Z : Prop} (h : ∃ x0 x1 x2,A x0 x1 x2∧B x0 x1 x2∧C x0 x1 x2) (c : ∀ x0 x1 x2,A x0 x1 x2→B x0 x1 x2→C x0 x1 x2→Z) : Z:=h.elim fun x h=>E23 h (c x)
theorem E43 {α0 α1 α2 α3 : Type} {A B C : α0→α1→α2→α3→Prop} {Z : Prop} (h : ∃ x0 x1 x2 x3,A x0 x1 x2 x3∧B x0 x1 x2 x3∧C x0 x1 x2 x3) (c : ∀ x0 x1 x2 x3,A x0 x1 x2 x3→B x0 x1 x2 x3→C x0 x1 x2 x3→Z) : Z:=h.elim fun x h=>E33 h (c x)
theorem E53 {α0 α1 α2 α3 α4 : Type} {A B C : α0→α1→α2→α3→α4→Prop} {Z : Prop} (h : ∃ x0 x1 x2 x3 x4,A x0 x1 x2 x3 x4∧B x0 x1 x2 x3 x4∧C x0 x1 x2 x3 x4) (c : ∀ x0 x1 x2 x3 x4,A x0 x1 x2 x3 x4→B x0 x1 x2 x3 x4→C x0 x1 x2 x3 x4→Z) : Z:=h.elim fun x h=>E43 h (c x)
theorem E04 {A B C D : Prop} {Z : Prop} (h : A∧B∧C∧D) (c : A→B→C→D→Z) : Z:=c h.1 h.2.1 h.2.2.1 h.2.2.2
theorem E14 {α0 : Type} {A B C D : α0→Prop} {Z : Prop} (h : ∃ x0,A x0∧B x0∧C x0∧D x0) (c : ∀ x0,A x0→B x0→C x0→D x0→Z) : Z:=h.elim fun x h=>E04 h (c x)
theorem E24 {α0 α1 : Type} {A B C D : α0→α1→Prop} {Z : Prop} (h : ∃ x0 x1,A x0 x1∧B x0 x1∧C x0 x1∧D x0 x1) (c : ∀ x0 x1,A x0 x1→B x0 x1→C x0 x1→D x0 x1→Z) : Z:=h.elim fun x h=>E14 h (c x)
theorem E34 {α0 α1 α2 : Type} {A B C D : α0→α1→α2→Prop} {Z : Prop} (h : ∃ x0 x1 x2,A x0 x1 x2∧B x0 x1 x2∧C x0 x1 x2∧D x0 x1 x2) (c : ∀ x0 x1 x2,A x0 x1 x2→B x0 x1 x2→C x0 x1 x2→D x0 x1 x2→Z) : Z:=h.elim fun x h=>E24 h (c x)
theorem E44 {α0 α1 α2 α3 : Type} {A B C D : α0→α1→α2→α3→Prop} {Z : Prop} (h : ∃ x0 x1 x2 x3,A x0 x1 x2 x3∧B x0 x1 x2 x3∧C x0 x1 x2 x3∧D x0 x1 x2 x3) (c : ∀ x0 x1 x2 x3,A x0 x1 x2 x3→B x0 x1 x2 x3→C x0 x1 x2 x3→D x0 x1 x2 x3→Z) : Z:=h.elim fun x h=>E34 h (c x)
theorem E05 {A B C D E : Prop} {Z : Prop} (h : A∧B∧C∧D∧E) (c : A→B→C→D→E→Z) : Z:=c h.1 h.2.1 h.2.2.1 h.2.2.2.1 h.2.2.2.2
theorem E15 {α0 : Type} {A B C D E : α0→Prop} {Z : Prop} (h : ∃ x0,A x0∧B x0∧C x0∧D x0∧E x0) (c : ∀ x0,A x0→B x0→C x0→D x0→E x0→Z) : Z:=h.elim fun x h=>E05 h (c x)
theorem E25 {α0 α1 : Type} {A B C D E : α0→α1→Prop} {Z : Prop} (h : ∃ x0 x1,A x0 x1∧B x0 x1∧C x0 x1∧D x0 x1∧E x0 x1) (c : ∀ x0 x1,A x0 x1→B x0 x1→C x0 x1→D x0 x1→E x0 x1→Z) : Z:=h.elim fun x h=>E15 h (c x)
theorem E35 {α0 α1 α2 : Type} {A B C D E : α0→α1→α2→Prop} {Z : Prop} (h : ∃ x0 x1 x2,A x0 x1 x2∧B x0 x1 x2∧C x0 x1 x2∧D x0 x1 x2∧E x0 x1 x2) (c : ∀ x0 x1 x2,A x0 x1 x2→B x0 x1 x2→C x0 x1 x2→D x0 x1 x2→E x0 x1 x2→Z) : Z:=h.elim fun x h=>E25 h (c x)
theorem E45 {α0 α1 α2 α3 : Type} {A B C D E : α0→α1→α2→α3→Prop} {Z : Prop} (h : ∃ x0 x1 x2 x3,A x0 x1 x2 x3∧B x0 x1 x2 x3∧C x0 x1 x2 x3∧D x0 x1 x2 x3∧E x0 x1 x2 x3) (c : ∀ x0 x1 x2 x3,A x0 x1 x2 x3→B x0 x1 x2 x3→C x0 x1 x2 x3→D x0 x1 x2 x3→E x0 x1 x2 x3→Z) : Z:=h.elim fun x h=>E35 h (c x)
theorem E06 {A B C D E F : Prop} {Z : Prop} (h : A∧B∧C∧D∧E∧F) (c : A→B→C→D→E→F→Z) : Z:=c h.1 h.2.1 h.2.2.1 h.2.2.2.1 h.2.2.2.2.1 h.2.2.2.2.2
theorem E16 {α0 : Type} {A B C D E F : α0→Prop} {Z : Prop} (h : ∃ x0,A x0∧B x0∧C x0∧D x0∧E x0∧F x0) (c : ∀ x0,A x0→B x0→C x0→D x0→E x0→F x0→Z) : Z:=h.elim fun x h=>E06 h (c x)
theorem E26 {α0 α1 : Type} {A B C D E F : α0→α1→Prop} {Z : Prop} (h : ∃ x0 x1,A x0 x1∧B x0 x1∧C x0 x1∧D x0 x1∧E x0 x1∧F x0 x1) (c : ∀ x0 x1,A x0 x1→B x0 x1→C x0 x1→D x0 x1→E x0 x1→F x0 x1→Z) : Z:=h.elim fun x h=>E16 h (c x)
theorem E36 {α0 α1 α2 : Type} {A B C D E F : α0→α1→α2→Prop} {Z : Prop} (h : ∃ x0 x1 x2,A x0 x1 x2∧B x0 x1 x2∧C x0 x1 x2∧D x0 x1 x2∧E x0 x1 x2∧F x0 x1 x2) (c : ∀ x0 x1 x2,A x0 x1 x2→B x0 x1 x2→C x0 x1 x2→D x0 x1 x2→E x0 x1 x2→F x0 x1 x2→Z) : Z:=h.elim fun x h=>E26 h (c x)
theorem E46 {α0 α1 α2 α3 : Type} {A B C D E F : α0→α1→α2→α3→Prop} {Z : Prop} (h : ∃ x0 x1 x2 x3,A x0 x1 x2 x3∧B x0 x1 x2 x3∧C x0 x1 x2 x3∧D x0 x1 x2 x3∧E x0 x1 x2 x3∧F x0 x1 x2 x3) (c : ∀ x0 x1 x2 x3,A x0 x1 x2 x3→B x0 x1 x2 x3→C x0 x1 x2 x3→D x0 x1 x2 x3→E x0 x1 x2 x3→F x0 x1 x2 x3→Z) : Z:=h.elim fun x h=>E36 h (c x)
theorem tl {x y n : Nat} (h : y + x≤n) : x≤n:=Nat.le_trans (Nat.le_add_left x y) h
theorem tr {x y n : Nat} (h : x + y≤n) : x≤n:=Nat.le_trans (Nat.le_add_right x y) h
theorem sl {a b : Nat} (h : a + 1≤b + 1) : a≤b:=Nat.le_of_succ_le_succ h
theorem tk {k a b n : Nat} (h : k + b≤n) (d : Nat.ble a b=true) : k + a≤n:=Nat.le_trans (Nat.add_le_add_left (Nat.le_of_ble_eq_true d) k) h
theorem dl {a b n : Nat} (h : b≤n) (d : Nat.ble a b=true) : a≤n:=Nat.le_trans (Nat.le_of_ble_eq_true d) h
theorem dr {a b n : Nat} (h : a≤b) (d : Nat.ble b n=true) : a≤n:=Nat.le_trans h (Nat.le_of_ble_eq_true d)
theorem tm {a b n : Nat} (h : a≤b) : a≤b + n:=Nat.le_trans h (Nat.le_add_right b n)
theorem sb {c n : Nat} (h : c≤n) : n=n - c + c:=(Nat.sub_add_cancel h).symm
inductive Fn where
 | plain | withoutSpot | writeAngles | writePath | writeType | writeRow | writeGenerics | writePattern | writePart | writeReferred
 | writeLiteral | writeVariant | isLong | writeFields
 | runEnd | remarkEnd | blankEnd | figureWorth | baseAt | readInt | readSign | readWord | wordRows | readWords
 | wPeek | wTake | wLooks | wExpect | wName | wSplitClose
 | readType | readParenType | readRefType | readArrayType | readSpath | readSegment | readPathName | readArguments | isClosed
 | readGenerics | readParam | isPlainName
 | readPattern | readPart | isAlone | readRefPattern | readParenPattern | readWhole | readNumber | readBinding | readVariant
 | readPlaces | readFields | readField
 | lawPool | lawTake | lawOne | lawPath | lawType | lawParams | lawName | lawFields | lawSort | lawGap | lawRow | lawPathText
 | lawTypeText | lawFieldText | lawPlainSort | lawSortText | lawBack | lawIsBare | law
 deriving DecidableEq,Inhabited
inductive D where
 | none
 | bool (b : Bool)
 | int (i : Int)
 | str (l : List Nat)
 | tup (xs : List D)
 | lst (xs : List D)
 deriving Inhabited
inductive V where
 | d (x : D)
 | l (i : Nat)
 | w (i : Nat)
 | fn (f : Fn)
 | rng (n : Nat)
 | dct (kvs : List (List Nat × Int))
 deriving Inhabited
inductive Ent where
 | lst (xs : List D)
 | wd (r : Nat) (at_ : Int)
noncomputable abbrev Store:=List Ent
noncomputable abbrev Loc:=List (Option V)
inductive R (α : Type) where
 | no
 | ok (a : α) (σ : Store)
inductive Gn where
 | intKinds | keywords | signs | figures | nameBegins | nameSigns | blanks | mostFigures | pathWords
 deriving DecidableEq,Inhabited
inductive Bop where | add | sub | mul | mod | fdiv | pow
 deriving DecidableEq,Inhabited
inductive Cop where | eq | ne | lt | gt | ge | is | isNot | isIn | notIn
 deriving DecidableEq,Inhabited
inductive Prim where | len | isiTuple | isiStr | isiInt | isiBool | str | tuple | list | min | max | range
 deriving DecidableEq,Inhabited
inductive Mth where | join | lower | find
 deriving DecidableEq,Inhabited
inductive X where
 | c (d : D)
 | v (i : Nat)
 | g (x : Gn)
 | fn (f : Fn)
 | tup (es : List X)
 | lst (mu : Bool) (es : List X)
 | neg (e : X)
 | not (e : X)
 | bin (o : Bop) (a b : X)
 | bop (isAnd : Bool) (es : List X)
 | ite (t a b : X)
 | cmp (o : Cop) (a b : X)
 | idx (a b : X)
 | slLo (a lo : X)
 | slHi (mu : Bool) (a hi : X)
 | slLH (a lo hi : X)
 | rev (a : X)
 | call (f : Fn) (es : List X)
 | callV (i : Nat) (es : List X)
 | prim (p : Prim) (mu : Bool) (es : List X)
 | mth (m : Mth) (o : X) (es : List X)
 | wm (f : Fn) (o : X) (es : List X)
 | rows (o : X)
 | wat (o : X)
 | mkW (e : X)
 | pop (i : Nat)
 | comp (mu : Bool) (elt : X) (ts : List Nat) (it : X)
 | compIf (elt : X) (ts : List Nat) (it : X) (t : X)
 | dct (kvs : List (List Nat × Int))
 | bad
 deriving Inhabited
inductive S where
 | ex (e : X)
 | app (i : Nat) (e : X)
 | ext (i : Nat) (e : X)
 | asg (i : Nat) (e : X)
 | asgT (is : List Nat) (e : X)
 | asgP (is : List Nat) (es : List X)
 | aug (i : Nat) (e : X)
 | augA (o : X) (b : Int)
 | setI (o i e : X)
 | if_ (t : X) (a b : List S)
 | while_ (t : X) (b : List S)
 | for_ (ts : List Nat) (it : X) (b : List S)
 | ret (keep : Bool) (e : X)
 | brk
 | raise (a b : X)
 | tryA (i : Nat) (e : X) (d : D)
 | bad
 deriving Inhabited
inductive Flow' where
 | next | brk | ret (keep : Bool) (v : V)
noncomputable def LIM : Nat:=16777216
mutual
noncomputable def D.dep : D→Nat
 | .tup xs=>D.deps xs + 1
 | .lst xs=>D.deps xs + 1
 | _=>0
noncomputable def D.deps : List D→Nat
 | []=>0
 | x :: xs=>Nat.max (D.dep x) (D.deps xs)
end
mutual
noncomputable def D.eq : D→D→Bool
 | .none,.none=>true
 | .bool a,.bool b=>a == b
 | .bool a,.int j=>(if a then 1 else 0) == j
 | .int i,.bool b=>i == (if b then 1 else 0)
 | .int i,.int j=>i == j
 | .str x,.str y=>x == y
 | .tup xs,.tup ys=>D.eqs xs ys
 | .lst xs,.lst ys=>D.eqs xs ys
 | _,_=>false
noncomputable def D.eqs : List D→List D→Bool
 | [],[]=>true
 | x :: xs,y :: ys=>D.eq x y && D.eqs xs ys
 | _,_=>false
end
noncomputable def eqOk (a b : D) : Bool:=decide (Nat.min a.dep b.dep≤64)
noncomputable def ikL : List (List Nat):=[[105,56],[105,49,54],[105,51,50],[105,54,52],[117,56],[117,49,54],[117,51,50],[117,54,52],[117,115,105,122,101]]
noncomputable def kwL : List (List Nat):=[[95],[83,101,108,102],[97,115],[98,114,101,97,107],[99,111,110,115,116],[99,111,110,116,105,110,117,101],[99,114,97,116,101],[101,108,115,101],[101,110,117,109],[102,97,108,115,101],[102,110],[102,111,114],[105,102],[105,109,112,108],[105,110],[108,101,116],[108,111,111,112],[109,97,116,99,104],[109,111,100],[109,117,116],[112,117,98],[114,101,102],[114,101,116,117,114,110],[115,101,108,102],[115,116,114,117,99,116],[115,117,112,101,114],[116,114,97,105,116],[116,114,117,101],[117,115,101],[119,104,105,108,101]]
noncomputable def sgs : List (List Nat):=[[60,60,61],[62,62,61],[46,46,61],[58,58],[45,62],[61,62],[61,61],[33,61],[60,61],[62,61],[38,38],[124,124],[60,60],[62,62],[46,46],[43,61],[45,61],[42,61],[47,61],[37,61],[38,61],[124,61],[94,61],[40],[41],[123],[125],[91],[93],[44],[59],[58],[46],[61],[60],[62],[43],[45],[42],[47],[37],[38],[124],[94],[33],[64]]
noncomputable def pwL : List (List Nat):=[[83,101,108,102],[99,114,97,116,101],[115,101,108,102],[115,117,112,101,114]]
noncomputable def fgL : List Nat:=[48,49,50,51,52,53,54,55,56,57]
noncomputable def nbL : List Nat:=[97,98,99,100,101,102,103,104,105,106,107,108,109,110,111,112,113,114,115,116,117,118,119,120,121,122,65,66,67,68,69,70,71,72,73,74,75,76,77,78,79,80,81,82,83,84,85,86,87,88,89,90,95]
noncomputable def nsL : List Nat:=[97,98,99,100,101,102,103,104,105,106,107,108,109,110,111,112,113,114,115,116,117,118,119,120,121,122,65,66,67,68,69,70,71,72,73,74,75,76,77,78,79,80,81,82,83,84,85,86,87,88,89,90,95,48,49,50,51,52,53,54,55,56,57]
noncomputable def blL : List Nat:=[32,9,13,10]
noncomputable def hexL : List Nat:=[48,49,50,51,52,53,54,55,56,57,97,98,99,100,101,102]
noncomputable def gval : Gn→D
 | .intKinds=>.tup (ikL.map .str)
 | .keywords=>.tup (kwL.map .str)
 | .signs=>.tup (sgs.map .str)
 | .figures=>.str fgL
 | .nameBegins=>.str nbL
 | .nameSigns=>.str nsL
 | .blanks=>.str blL
 | .mostFigures=>.int 40
 | .pathWords=>.tup (pwL.map .str)
noncomputable def allD : List V→Option (List D)
 | []=>some []
 | .d x :: r=>(allD r).map (x :: ·)
 | _ :: _=>none
noncomputable def resD (σ : Store) : V→Option D
 | .d x=>some x
 | .l i=>match σ[i]? with
  | some (.lst xs)=>some (.lst xs)
  | _=>none
 | _=>none
noncomputable def fitD : List D→Bool:=fun xs=>decide (xs.length≤LIM)
noncomputable def fitS : List Nat→Bool:=fun xs=>decide (xs.length≤LIM)
noncomputable def mkLst (mu : Bool) (xs : List D) (σ : Store) : R V:=
 if fitD xs then (if mu then .ok (.l σ.length) (σ ++ [.lst xs]) else .ok (.d (.lst xs)) σ) else .no
noncomputable def setL (Γ : Loc) (i : Nat) (v : V) : Loc:=Γ.set i (some v)
noncomputable def setLs (Γ : Loc) : List Nat→List V→Option Loc
 | [],[]=>some Γ
 | i :: is,v :: vs=>setLs (setL Γ i v) is vs
 | _,_=>none
noncomputable def truthV : V→Option Bool
 | .d (.bool b)=>some b
 | _=>none
noncomputable def vD {α : Type} (f : D→R α) : V→R α
 | .d x=>f x
 | _=>.no
noncomputable def dI (f : Int→R V) : D→R V
 | .int i=>f i
 | _=>.no
noncomputable def dS (f : List Nat→R V) : D→R V
 | .str l=>f l
 | _=>.no
noncomputable def dT (f : List D→R V) : D→R V
 | .tup l=>f l
 | _=>.no
noncomputable def dL (f : List D→R V) : D→R V
 | .lst l=>f l
 | _=>.no
noncomputable def addD (σ : Store) (x y : D) : R V:=
 match x with
 | .int a=>dI (fun b=>.ok (.d (.int (a + b))) σ) y
 | .str a=>dS (fun b=>if fitS (a ++ b) then .ok (.d (.str (a ++ b))) σ else .no) y
 | .tup a=>dT (fun b=>if fitD (a ++ b) then .ok (.d (.tup (a ++ b))) σ else .no) y
 | .lst a=>dL (fun b=>if fitD (a ++ b) then .ok (.d (.lst (a ++ b))) σ else .no) y
 | .none=>.no
 | .bool _=>.no
noncomputable def binD (σ : Store) (o : Bop) (x y : D) : R V:=
 match o with
 | .add=>addD σ x y
 | .sub=>dI (fun a=>dI (fun b=>.ok (.d (.int (a - b))) σ) y) x
 | .mul=>dI (fun a=>dI (fun b=>if decide (a.natAbs < 1267650600228229401496703205376) && decide (b.natAbs < 1267650600228229401496703205376) then .ok (.d (.int (a * b))) σ else .no) y) x
 | .mod=>dI (fun a=>dI (fun b=>if decide (0 < b) then .ok (.d (.int (a % b))) σ else .no) y) x
 | .fdiv=>dI (fun a=>dI (fun b=>if decide (0 < b) && decide (b < 1000000) then .ok (.d (.int (a / b))) σ else .no) y) x
 | .pow=>dI (fun a=>dI (fun b=>if decide (a=10) && decide (b=18) then .ok (.d (.int 1000000000000000000)) σ else .no) y) x
noncomputable def binV (σ : Store) (o : Bop) (a b : V) : R V:=vD (fun x=>vD (fun y=>binD σ o x y) b) a
noncomputable def D.isIn (x : D) : List D→Bool
 | []=>false
 | y :: r=>D.eq y x || D.isIn x r
noncomputable def flatD : D→Bool
 | .none=>true
 | .str _=>true
 | .int _=>true
 | .bool _=>true
 | _=>false
noncomputable def inT (x : D) (ds : List D) : Option Bool:=if flatD x then some (D.isIn x ds) else none
noncomputable def inS (l : List Nat) : List Nat→Option Bool
 | []=>none
 | c :: r=>match r with
  | []=>some (l.contains c)
  | _ :: _=>none
noncomputable def sIn (l : List Nat) : D→Option Bool
 | .str s=>inS l s
 | _=>none
noncomputable def isInV (a b : D) : Option Bool:=
 match b with
 | .tup ds=>inT a ds
 | .str l=>sIn l a
 | _=>none
noncomputable def oD {α : Type} (f : D→Option α) : V→Option α
 | .d x=>f x
 | _=>none
noncomputable def oI (f : Int→Option Bool) : D→Option Bool
 | .int i=>f i
 | _=>none
noncomputable def oR (σ : Store) (v : V) (f : D→Option Bool) : Option Bool:=match resD σ v with
 | some x=>f x
 | none=>none
noncomputable def i2 (f : Int→Int→Bool) (a b : V) : Option Bool:=oD (fun x=>oD (fun y=>oI (fun x=>oI (fun y=>some (f x y)) y) x) b) a
noncomputable def isNo : D→Bool
 | .none=>true
 | _=>false
noncomputable def isTr : D→Bool
 | .bool b=>b
 | _=>false
noncomputable def isD (x : D) : D→Option Bool
 | .none=>some (isNo x)
 | _=>none
noncomputable def ntD (x : D) : D→Option Bool
 | .none=>some (!isNo x)
 | .bool b=>if b then some (!isTr x) else none
 | _=>none
noncomputable def kvD (kvs : List (List Nat × Int)) : D→Option Bool
 | .str x=>some (kvs.any fun p=>p.1 == x)
 | _=>none
noncomputable def inV (x : D) : V→Option Bool
 | .d y=>isInV x y
 | .dct kvs=>kvD kvs x
 | _=>none
noncomputable def ninD (x : D) : D→Option Bool
 | .tup ds=>(inT x ds).map (!·)
 | _=>none
noncomputable def cmpV (σ : Store) (o : Cop) (a b : V) : Option Bool:=
 match o with
 | .eq=>oR σ a fun x=>oR σ b fun y=>if eqOk x y then some (D.eq x y) else none
 | .ne=>oR σ a fun x=>oR σ b fun y=>if eqOk x y then some (!D.eq x y) else none
 | .lt=>i2 (fun x y=>decide (x < y)) a b
 | .gt=>i2 (fun x y=>decide (y < x)) a b
 | .ge=>i2 (fun x y=>decide (y≤x)) a b
 | .is=>oD (fun x=>oD (isD x) b) a
 | .isNot=>oD (fun x=>oD (ntD x) b) a
 | .isIn=>oD (fun x=>inV x b) a
 | .notIn=>oD (fun x=>oD (ninD x) b) a
noncomputable def pyIdx (n : Nat) (i : Int) : Option Nat:=
 if 0≤i then (if i < n then some i.toNat else none) else if 0≤i + n then some (i + n).toNat else none
noncomputable def idxD (σ : Store) (d : D) (i : Int) : R V:=
 match d with
 | .tup xs=>(match (pyIdx xs.length i).bind (xs[·]?) with | some x=>.ok (.d x) σ | none=>.no)
 | .lst xs=>(match (pyIdx xs.length i).bind (xs[·]?) with | some x=>.ok (.d x) σ | none=>.no)
 | .str l=>(match (pyIdx l.length i).bind (l[·]?) with | some c=>.ok (.d (.str [c])) σ | none=>.no)
 | _=>.no
noncomputable def idxV (σ : Store) (a b : V) : R V:=
 match b with
 | .d (.int i)=>(match resD σ a with | some d=>idxD σ d i | none=>.no)
 | _=>.no
noncomputable def cut {α : Type} (xs : List α) (lo : Int) (hi : Option Int) : List α:=((match hi with | some h=>xs.take h.toNat | none=>xs)).drop lo.toNat
noncomputable def slD (mu : Bool) (σ : Store) (d : D) (lo : Int) (hi : Option Int) : R V:=
 match d with
 | .lst xs=>mkLst mu (cut xs lo hi) σ
 | .str xs=>.ok (.d (.str (cut xs lo hi))) σ
 | _=>.no
noncomputable def slV (mu : Bool) (σ : Store) (a : V) (lo : Int) (hi : Option Int) : R V:=
 if decide (0≤lo) && decide (0≤hi.getD 0) then
  match resD σ a with
  | some d=>slD mu σ d lo hi
  | none=>.no
 else .no
noncomputable def lowC (c : Nat) : Nat:=if 65≤c∧c≤90 then c + 32 else c
noncomputable def findC (c : Nat) : List Nat→Nat→Int
 | [],_=>-1
 | x :: r,k=>if x == c then (k : Int) else findC c r (k + 1)
noncomputable def figs : Nat→Nat→List Nat
 | 0,_=>[]
 | f + 1,n=>(if n < 10 then [] else figs f (n / 10)) ++ [48 + n % 10]
noncomputable def intText (i : Int) : List Nat:=if i < 0 then 45 :: figs 9 i.natAbs else figs 9 i.natAbs
noncomputable def strsOf : List D→Option (List (List Nat))
 | []=>some []
 | .str x :: r=>(strsOf r).map (x :: ·)
 | _ :: _=>none
noncomputable def joinS (sep : List Nat) : List (List Nat)→List Nat
 | []=>[]
 | [x]=>x
 | x :: r=>x ++ sep ++ joinS sep r
noncomputable def isiV (p : Prim) (x : D) (σ : Store) : R V:=
 match x with
 | .none=>.ok (.d (.bool false)) σ
 | .bool _=>.ok (.d (.bool (p == .isiInt || p == .isiBool))) σ
 | .int _=>.ok (.d (.bool (p == .isiInt))) σ
 | .str _=>.ok (.d (.bool (p == .isiStr))) σ
 | .tup _=>.ok (.d (.bool (p == .isiTuple))) σ
 | .lst _=>.no
noncomputable def lenD (d : D) (σ : Store) : R V:=
 match d with
 | .tup xs=>.ok (.d (.int xs.length)) σ
 | .lst xs=>.ok (.d (.int xs.length)) σ
 | .str xs=>.ok (.d (.int xs.length)) σ
 | _=>.no
noncomputable def tupD (d : D) (σ : Store) : R V:=
 match d with
 | .tup xs=>.ok (.d (.tup xs)) σ
 | .lst xs=>.ok (.d (.tup xs)) σ
 | _=>.no
noncomputable def lstD (mu : Bool) (d : D) (σ : Store) : R V:=
 match d with
 | .tup xs=>mkLst mu xs σ
 | .lst xs=>mkLst mu xs σ
 | _=>.no
noncomputable def withD (σ : Store) (a : V) (f : D→R V) : R V:=
 match resD σ a with
 | some d=>f d
 | none=>.no
noncomputable def p1 (f : V→R V) : List V→R V
 | []=>.no
 | a :: r=>match r with
  | []=>f a
  | _ :: _=>.no
noncomputable def p2 (f : V→V→R V) : List V→R V
 | []=>.no
 | a :: r=>p1 (f a) r
noncomputable def strD (σ : Store) : D→R V
 | .int i=>if decide (-128≤i) && decide (i≤127) then .ok (.d (.str (intText i))) σ else .no
 | .bool b=>.ok (.d (.str (if b then [84,114,117,101] else [70,97,108,115,101]))) σ
 | _=>.no
noncomputable def primV (p : Prim) (mu : Bool) (σ : Store) (vs : List V) : R V:=
 match p with
 | .len=>p1 (fun a=>withD σ a fun d=>lenD d σ) vs
 | .isiTuple=>p1 (vD fun x=>isiV .isiTuple x σ) vs
 | .isiStr=>p1 (vD fun x=>isiV .isiStr x σ) vs
 | .isiInt=>p1 (vD fun x=>isiV .isiInt x σ) vs
 | .isiBool=>p1 (vD fun x=>isiV .isiBool x σ) vs
 | .str=>p1 (vD (strD σ)) vs
 | .tuple=>p1 (fun a=>withD σ a fun d=>tupD d σ) vs
 | .list=>p1 (fun a=>withD σ a fun d=>lstD mu d σ) vs
 | .min=>p2 (fun a b=>vD (fun x=>vD (fun y=>dI (fun x=>dI (fun y=>.ok (.d (.int (if y < x then y else x))) σ) y) x) b) a) vs
 | .max=>p2 (fun a b=>vD (fun x=>vD (fun y=>dI (fun x=>dI (fun y=>.ok (.d (.int (if y > x then y else x))) σ) y) x) b) a) vs
 | .range=>p1 (vD (dI fun n=>if decide (0≤n) && decide (n≤1000000) then .ok (.rng n.toNat) σ else .no)) vs
noncomputable def joinD (sep : List Nat) (d : D) (σ : Store) : R V:=
 match d with
 | .lst xs=>(match strsOf xs with
   | some ss=>if decide ((ss.map List.length).sum + ss.length * sep.length≤LIM) then .ok (.d (.str (joinS sep ss))) σ else .no
   | none=>.no)
 | _=>.no
noncomputable def findS (σ : Store) (l : List Nat) : List Nat→R V
 | []=>.no
 | c :: r=>match r with
  | []=>if l == hexL then .ok (.d (.int (findC c l 0))) σ else .no
  | _ :: _=>.no
noncomputable def p0 (x : R V) : List V→R V
 | []=>x
 | _ :: _=>.no
noncomputable def mthV (m : Mth) (σ : Store) (o : V) (vs : List V) : R V:=
 match m with
 | .join=>vD (dS fun sep=>p1 (fun a=>withD σ a fun d=>joinD sep d σ) vs) o
 | .lower=>vD (dS fun l=>p0 (.ok (.d (.str (l.map lowC))) σ) vs) o
 | .find=>vD (dS fun l=>p1 (vD (dS (findS σ l))) vs) o
noncomputable def rngD : Nat→List D:=fun n=>(List.range n).map fun (k : Nat)=>D.int (Int.ofNat k)
noncomputable def itemsV (σ : Store) : V→Option (List D)
 | .d (.tup xs)=>some xs
 | .d (.lst xs)=>some xs
 | .rng n=>some (rngD n)
 | _=>none
noncomputable def bindT (Γ : Loc) (ts : List Nat) (x : D) : Option Loc:=
 match ts with
 | [i]=>some (setL Γ i (.d x))
 | _=>match x with
  | .tup ds=>setLs Γ ts (ds.map .d)
  | _=>none
noncomputable def mask (Γ : Loc) : Loc:=Γ.map fun o=>match o with
 | some (.d x)=>some (.d x)
 | _=>none
noncomputable def clr : List Nat→Loc→Loc
 | [],Γ=>Γ
 | i :: is,Γ=>clr is (Γ.set i none)
structure FD where
 params : Nat
 dflts : List D
 slots : Nat
 body : List S
noncomputable def revK {α : Type} : List V→List V→(List V→α)→α
 | [],acc,k=>k acc
 | v :: vs,acc,k=>revK vs (v :: acc) k
noncomputable def dflK {α : Type} : List D→List V→(List V→α)→α
 | [],acc,k=>k acc
 | d :: ds,acc,k=>dflK ds (.d d :: acc) k
noncomputable def noneK {α : Type} : Nat→Loc→(Loc→α)→α
 | 0,acc,k=>k acc
 | n + 1,acc,k=>noneK n (none :: acc) k
noncomputable def pushK {α : Type} : List V→Loc→(Loc→α)→α
 | [],acc,k=>k acc
 | v :: r,acc,k=>pushK r (some v :: acc) k
noncomputable def bindV (fd : FD) (vs : List V) : Option Loc:=
 if vs.length≤fd.params∧fd.params≤vs.length + fd.dflts.length then
  revK vs [] fun rv=>dflK (fd.dflts.drop (vs.length + fd.dflts.length - fd.params)) [] fun rd=>noneK (fd.slots - fd.params) [] fun acc=>pushK rd acc fun acc=>pushK rv acc some
 else none
end Mine
namespace Mine
open PySem
noncomputable def F (f : Fn) : FD:=@Fn.casesOn (fun _=>FD) f
 ⟨1,[],8,[
  .asgP [1,2] [(.lst true [(.tup [(.v 0),(.c (.bool false))])]),(.lst true [])],
  .while_ (.cmp .ne (.v 1) (.lst false [])) [.asgT [3,4] (.pop 1),.if_ (.not (.prim .isiTuple false [(.v 3)])) [.app 2 (.v 3)] [.if_ (.not (.v 4)) [.app 1 (.tup [(.v 3),(.c (.bool true))]),.ext 1 (.comp false (.tup [(.v 7),(.c (.bool false))]) [7] (.rev (.v 3)))] [.asg 5 (.bin .sub (.prim .len false [(.v 2)]) (.prim .len false [(.v 3)])),.asg 6 (.slLo (.v 2) (.v 5)),.asg 2 (.slHi true (.v 2) (.v 5)),.app 2 (.prim .tuple false [(.call .withoutSpot [(.v 3),(.v 6)])])]]],
  .ret false (.idx (.v 2) (.c (.int 0)))]⟩
 ⟨2,[],2,[
  .if_ (.bop true [(.cmp .gt (.prim .len false [(.v 0)]) (.c (.int 1))),(.prim .isiStr false [(.idx (.v 0) (.c (.int 0)))]),(.prim .isiInt false [(.idx (.v 0) (.c (.int 1)))]),(.not (.prim .isiBool false [(.idx (.v 0) (.c (.int 1)))]))]) [.ret false (.bin .add (.lst false [(.idx (.v 1) (.c (.int 0))),(.c (.int 0))]) (.slLo (.v 1) (.c (.int 2))))] [],
  .ret false (.v 1)]⟩
 ⟨1,[],1,[
  .ret false (.ite (.cmp .eq (.v 0) (.lst false [])) (.c (.str [])) (.bin .add (.bin .add (.c (.str [60])) (.mth .join (.c (.str [44,32])) [(.v 0)])) (.c (.str [62]))))]⟩
 ⟨2,[(.str [])],8,[
  .asg 2 (.lst true []),
  .for_ [3,4,5] (.v 0) [.asg 6 (.call .writeAngles [(.bin .add (.prim .list false [(.v 4)]) (.comp false (.call .writeType [(.v 7)]) [7] (.v 5)))]),.app 2 (.bin .add (.v 3) (.ite (.cmp .ne (.v 6) (.c (.str []))) (.bin .add (.v 1) (.v 6)) (.c (.str []))))],
  .ret false (.mth .join (.c (.str [58,58])) [(.v 2)])]⟩
 ⟨1,[],4,[
  .asg 1 (.idx (.v 0) (.c (.int 0))),
  .if_ (.cmp .eq (.v 1) (.c (.str [112,97,116,104]))) [.ret false (.call .writePath [(.idx (.v 0) (.c (.int 2)))])] [],
  .if_ (.cmp .eq (.v 1) (.c (.str [114,101,102]))) [.asg 2 (.ite (.cmp .is (.idx (.v 0) (.c (.int 2))) (.c .none)) (.c (.str [])) (.bin .add (.idx (.v 0) (.c (.int 2))) (.c (.str [32])))),.ret false (.bin .add (.bin .add (.bin .add (.c (.str [38])) (.v 2)) (.ite (.idx (.v 0) (.c (.int 3))) (.c (.str [109,117,116,32])) (.c (.str [])))) (.call .writeType [(.idx (.v 0) (.c (.int 4)))]))] [],
  .if_ (.cmp .eq (.v 1) (.c (.str [116,117,112,108,101]))) [.ret false (.call .writeRow [(.comp false (.call .writeType [(.v 3)]) [3] (.idx (.v 0) (.c (.int 2))))])] [],
  .if_ (.cmp .eq (.v 1) (.c (.str [97,114,114,97,121]))) [.ret false (.bin .add (.bin .add (.bin .add (.bin .add (.c (.str [91])) (.call .writeType [(.idx (.v 0) (.c (.int 2)))])) (.c (.str [59,32]))) (.prim .str false [(.idx (.v 0) (.c (.int 3)))])) (.c (.str [93])))] [],
  .ret false (.ite (.cmp .eq (.v 1) (.c (.str [110,101,118,101,114]))) (.c (.str [33])) (.c (.str [95])))]⟩
 ⟨1,[],1,[
  .ret false (.bin .add (.bin .add (.bin .add (.c (.str [40])) (.mth .join (.c (.str [44,32])) [(.v 0)])) (.ite (.cmp .eq (.prim .len false [(.v 0)]) (.c (.int 1))) (.c (.str [44])) (.c (.str [])))) (.c (.str [41])))]⟩
 ⟨1,[],6,[
  .asg 1 (.prim .list true [(.idx (.v 0) (.c (.int 0)))]),
  .for_ [2,3] (.idx (.v 0) (.c (.int 1))) [.asg 4 (.mth .join (.c (.str [32,43,32])) [(.comp false (.call .writePath [(.v 5)]) [5] (.v 3))]),.app 1 (.bin .add (.v 2) (.ite (.cmp .ne (.v 4) (.c (.str []))) (.bin .add (.c (.str [58,32])) (.v 4)) (.c (.str []))))],
  .ret false (.call .writeAngles [(.v 1)])]⟩
 ⟨1,[],2,[
  .if_ (.cmp .eq (.idx (.v 0) (.c (.int 0))) (.c (.str [111,114]))) [.ret false (.mth .join (.c (.str [32,124,32])) [(.comp false (.call .writePart [(.v 1)]) [1] (.idx (.v 0) (.c (.int 2))))])] [],
  .ret false (.call .writePart [(.v 0)])]⟩
 ⟨1,[],4,[
  .asg 1 (.idx (.v 0) (.c (.int 0))),
  .if_ (.cmp .eq (.v 1) (.c (.str [111,114]))) [.ret false (.bin .add (.bin .add (.c (.str [40])) (.call .writePattern [(.v 0)])) (.c (.str [41])))] [],
  .if_ (.cmp .eq (.v 1) (.c (.str [119,105,108,100]))) [.ret false (.c (.str [95]))] [],
  .if_ (.cmp .eq (.v 1) (.c (.str [110,97,109,101]))) [.asg 2 (.bin .add (.ite (.idx (.v 0) (.c (.int 3))) (.c (.str [114,101,102,32])) (.c (.str []))) (.ite (.idx (.v 0) (.c (.int 4))) (.c (.str [109,117,116,32])) (.c (.str [])))),.ret false (.bin .add (.bin .add (.v 2) (.idx (.v 0) (.c (.int 2)))) (.ite (.cmp .is (.idx (.v 0) (.c (.int 5))) (.c .none)) (.c (.str [])) (.bin .add (.c (.str [32,64,32])) (.call .writePart [(.idx (.v 0) (.c (.int 5)))]))))] [],
  .if_ (.cmp .eq (.v 1) (.c (.str [108,105,116]))) [.ret false (.call .writeLiteral [(.idx (.v 0) (.c (.int 2)))])] [],
  .if_ (.cmp .eq (.v 1) (.c (.str [114,97,110,103,101]))) [.ret false (.bin .add (.bin .add (.prim .str false [(.idx (.v 0) (.c (.int 2)))]) (.c (.str [46,46,61]))) (.prim .str false [(.idx (.v 0) (.c (.int 3)))]))] [],
  .if_ (.cmp .eq (.v 1) (.c (.str [114,101,102]))) [.ret false (.bin .add (.bin .add (.c (.str [38])) (.ite (.idx (.v 0) (.c (.int 2))) (.c (.str [109,117,116,32])) (.c (.str [])))) (.call .writeReferred [(.v 0)]))] [],
  .if_ (.cmp .eq (.v 1) (.c (.str [116,117,112,108,101]))) [.ret false (.call .writeRow [(.comp false (.call .writePattern [(.v 3)]) [3] (.idx (.v 0) (.c (.int 2))))])] [],
  .if_ (.cmp .eq (.v 1) (.c (.str [118,97,114,105,97,110,116]))) [.ret false (.call .writeVariant [(.v 0)])] [],
  .ret false (.call .writeFields [(.v 0)])]⟩
 ⟨1,[],3,[
  .asg 1 (.call .writePart [(.idx (.v 0) (.c (.int 3)))]),
  .asg 2 (.bop true [(.cmp .eq (.idx (.idx (.v 0) (.c (.int 3))) (.c (.int 0))) (.c (.str [110,97,109,101]))),(.idx (.idx (.v 0) (.c (.int 3))) (.c (.int 4))),(.not (.idx (.idx (.v 0) (.c (.int 3))) (.c (.int 3))))]),
  .ret false (.ite (.v 2) (.bin .add (.bin .add (.c (.str [40])) (.v 1)) (.c (.str [41]))) (.v 1))]⟩
 ⟨1,[],1,[
  .if_ (.prim .isiBool false [(.v 0)]) [.ret false (.ite (.v 0) (.c (.str [116,114,117,101])) (.c (.str [102,97,108,115,101])))] [],
  .ret false (.prim .str false [(.v 0)])]⟩
 ⟨1,[],4,[
  .asgP [1,2] [(.call .writePath [(.idx (.v 0) (.c (.int 2))),(.c (.str [58,58]))]),(.comp false (.call .writePattern [(.v 3)]) [3] (.idx (.v 0) (.c (.int 3))))],
  .if_ (.bop true [(.cmp .eq (.v 2) (.lst false [])),(.call .isLong [(.idx (.v 0) (.c (.int 2)))])]) [.ret false (.v 1)] [],
  .ret false (.bin .add (.bin .add (.bin .add (.v 1) (.c (.str [40]))) (.mth .join (.c (.str [44,32])) [(.v 2)])) (.c (.str [41])))]⟩
 ⟨1,[],1,[
  .ret false (.bop false [(.cmp .gt (.prim .len false [(.v 0)]) (.c (.int 1))),(.cmp .isIn (.idx (.idx (.v 0) (.c (.int 0))) (.c (.int 0))) (.tup [(.c (.str [83,101,108,102])),(.c (.str [115,101,108,102])),(.c (.str [115,117,112,101,114])),(.c (.str [99,114,97,116,101]))]))])]⟩
 ⟨1,[],4,[
  .asg 1 (.comp true (.bin .add (.bin .add (.v 2) (.c (.str [58,32]))) (.call .writePattern [(.v 3)])) [2,3] (.idx (.v 0) (.c (.int 3)))),
  .if_ (.idx (.v 0) (.c (.int 4))) [.app 1 (.c (.str [46,46]))] [],
  .ret false (.bin .add (.bin .add (.bin .add (.call .writePath [(.idx (.v 0) (.c (.int 2))),(.c (.str [58,58]))]) (.c (.str [32,123,32]))) (.mth .join (.c (.str [44,32])) [(.v 1)])) (.ite (.cmp .ne (.v 1) (.lst false [])) (.c (.str [32,125])) (.c (.str [125]))))]⟩
 ⟨3,[],3,[
  .while_ (.bop true [(.cmp .lt (.v 1) (.prim .len false [(.v 0)])),(.cmp .isIn (.idx (.v 0) (.v 1)) (.v 2))]) [.aug 1 (.c (.int 1))],
  .ret false (.v 1)]⟩
 ⟨2,[],4,[
  .asgP [2,3] [(.v 1),(.c (.int 0))],
  .while_ (.cmp .lt (.v 1) (.prim .len false [(.v 0)])) [.if_ (.cmp .eq (.slLH (.v 0) (.v 1) (.bin .add (.v 1) (.c (.int 2)))) (.c (.str [47,42]))) [.asgP [3,1] [(.bin .add (.v 3) (.c (.int 1))),(.bin .add (.v 1) (.c (.int 2)))]] [.if_ (.cmp .eq (.slLH (.v 0) (.v 1) (.bin .add (.v 1) (.c (.int 2)))) (.c (.str [42,47]))) [.asgP [3,1] [(.bin .sub (.v 3) (.c (.int 1))),(.bin .add (.v 1) (.c (.int 2)))],.if_ (.cmp .eq (.v 3) (.c (.int 0))) [.ret false (.v 1)] []] [.aug 1 (.c (.int 1))]]],
  .bad]⟩
 ⟨2,[],3,[
  .while_ (.cmp .lt (.v 1) (.prim .len false [(.v 0)])) [.if_ (.cmp .isIn (.idx (.v 0) (.v 1)) (.g .blanks)) [.asg 1 (.call .runEnd [(.v 0),(.v 1),(.g .blanks)])] [.if_ (.cmp .eq (.slLH (.v 0) (.v 1) (.bin .add (.v 1) (.c (.int 2)))) (.c (.str [47,47]))) [.asg 2 .bad,.asg 1 (.ite (.cmp .lt (.v 2) (.c (.int 0))) (.prim .len false [(.v 0)]) (.v 2))] [.if_ (.cmp .eq (.slLH (.v 0) (.v 1) (.bin .add (.v 1) (.c (.int 2)))) (.c (.str [47,42]))) [.asg 1 (.call .remarkEnd [(.v 0),(.v 1)])] [.ret false (.v 1)]]]],
  .ret false (.v 1)]⟩
 ⟨1,[],2,[
  .asg 1 (.mth .find (.c (.str [48,49,50,51,52,53,54,55,56,57,97,98,99,100,101,102])) [(.mth .lower (.v 0) [])]),
  .ret false (.ite (.cmp .ge (.v 1) (.c (.int 0))) (.v 1) (.c (.int 99)))]⟩
 ⟨2,[],4,[
  .asg 2 (.dct [([48,120],16),([48,111],8),([48,98],2)]),
  .asg 3 (.slLH (.v 0) (.v 1) (.bin .add (.v 1) (.c (.int 2)))),
  .ret false (.ite (.cmp .isIn (.v 3) (.v 2)) (.tup [(.idx (.v 2) (.v 3)),(.bin .add (.v 1) (.c (.int 2)))]) (.tup [(.c (.int 10)),(.v 1)]))]⟩
 ⟨2,[],8,[
  .asgT [2,3] (.call .baseAt [(.v 0),(.v 1)]),
  .asgP [4,5] [(.c (.int 0)),(.c (.int 0))],
  .while_ (.bop true [(.cmp .lt (.v 3) (.prim .len false [(.v 0)])),(.bop false [(.cmp .eq (.idx (.v 0) (.v 3)) (.c (.str [95]))),(.cmp .lt (.call .figureWorth [(.idx (.v 0) (.v 3))]) (.v 2))])]) [.if_ (.cmp .ne (.idx (.v 0) (.v 3)) (.c (.str [95]))) [.asgP [4,5] [(.bin .add (.bin .mul (.v 4) (.v 2)) (.call .figureWorth [(.idx (.v 0) (.v 3))])),(.bin .add (.v 5) (.c (.int 1)))]] [],.aug 3 (.c (.int 1))],
  .if_ (.cmp .eq (.v 5) (.c (.int 0))) [.bad] [],
  .if_ (.cmp .gt (.v 5) (.g .mostFigures)) [.bad] [],
  .asg 6 (.call .runEnd [(.v 0),(.v 3),(.g .nameSigns)]),
  .asg 7 (.slLH (.v 0) (.v 3) (.v 6)),
  .if_ (.bop true [(.cmp .ne (.v 7) (.c (.str []))),(.cmp .notIn (.v 7) (.g .intKinds))]) [.bad] [],
  .ret false (.tup [(.tup [(.c (.str [105,110,116])),(.slLH (.v 0) (.v 1) (.v 6)),(.v 1),(.v 4),(.ite (.cmp .eq (.v 7) (.c (.str []))) (.c .none) (.v 7))]),(.v 6)])]⟩
 ⟨2,[],3,[
  .for_ [2] (.g .signs) [.if_ (.cmp .eq (.slLH (.v 0) (.v 1) (.bin .add (.v 1) (.prim .len false [(.v 2)]))) (.v 2)) [.ret false (.tup [(.tup [(.c (.str [115,105,103,110])),(.v 2),(.v 1),(.c .none),(.c .none)]),(.bin .add (.v 1) (.prim .len false [(.v 2)]))])] []],
  .bad]⟩
 ⟨2,[],3,[
  .if_ (.cmp .isIn (.idx (.v 0) (.v 1)) (.g .nameBegins)) [.asg 2 (.call .runEnd [(.v 0),(.v 1),(.g .nameSigns)]),.ret false (.tup [(.tup [(.c (.str [110,97,109,101])),(.slLH (.v 0) (.v 1) (.v 2)),(.v 1),(.c .none),(.c .none)]),(.v 2)])] [],
  .if_ (.cmp .isIn (.idx (.v 0) (.v 1)) (.g .figures)) [.ret false (.call .readInt [(.v 0),(.v 1)])] [],
  .if_ (.cmp .eq (.idx (.v 0) (.v 1)) (.c (.str [39]))) [.asg 2 (.call .runEnd [(.v 0),(.bin .add (.v 1) (.c (.int 1))),(.g .nameSigns)]),.if_ (.bop false [(.cmp .eq (.v 2) (.bin .add (.v 1) (.c (.int 1)))),(.cmp .isIn (.idx (.v 0) (.bin .add (.v 1) (.c (.int 1)))) (.g .figures))]) [.bad] [],.ret false (.tup [(.tup [(.c (.str [114,101,103,105,111,110])),(.slLH (.v 0) (.v 1) (.v 2)),(.v 1),(.c .none),(.c .none)]),(.v 2)])] [],
  .ret false (.call .readSign [(.v 0),(.v 1)])]⟩
 ⟨1,[],4,[
  .asg 1 (.lst true []),
  .asg 2 (.call .blankEnd [(.v 0),(.c (.int 0))]),
  .while_ (.cmp .lt (.v 2) (.prim .len false [(.v 0)])) [.asgT [3,2] (.call .readWord [(.v 0),(.v 2)]),.app 1 (.v 3),.asg 2 (.call .blankEnd [(.v 0),(.v 2)])],
  .app 1 (.tup [(.c (.str [101,110,100])),(.c (.str [])),(.prim .len false [(.v 0)]),(.c .none),(.c .none)]),
  .ret false (.v 1)]⟩
 ⟨1,[],1,[
  .ret true (.mkW (.call .wordRows [(.v 0)]))]⟩
 ⟨2,[(.int 0)],2,[
  .ret false (.idx (.rows (.v 0)) (.prim .min false [(.bin .add (.wat (.v 0)) (.v 1)),(.bin .sub (.prim .len false [(.rows (.v 0))]) (.c (.int 1)))]))]⟩
 ⟨1,[],2,[
  .asg 1 (.wm .wPeek (.v 0) []),
  .if_ (.cmp .ne (.idx (.v 1) (.c (.int 0))) (.c (.str [101,110,100]))) [.augA (.v 0) 1] [],
  .ret false (.v 1)]⟩
 ⟨3,[(.int 0)],4,[
  .asg 3 (.wm .wPeek (.v 0) [(.v 2)]),
  .ret false (.bop true [(.cmp .isIn (.idx (.v 3) (.c (.int 0))) (.tup [(.c (.str [115,105,103,110])),(.c (.str [110,97,109,101]))])),(.cmp .eq (.idx (.v 3) (.c (.int 1))) (.v 1))])]⟩
 ⟨2,[],2,[
  .if_ (.not (.wm .wLooks (.v 0) [(.v 1)])) [.raise (.bin .add (.v 1) (.c (.str [32,105,115,32,109,105,115,115,105,110,103]))) (.idx (.wm .wPeek (.v 0) []) (.c (.int 2)))] [],
  .ret false (.wm .wTake (.v 0) [])]⟩
 ⟨1,[],2,[
  .asg 1 (.wm .wPeek (.v 0) []),
  .if_ (.bop false [(.cmp .ne (.idx (.v 1) (.c (.int 0))) (.c (.str [110,97,109,101]))),(.cmp .isIn (.idx (.v 1) (.c (.int 1))) (.g .keywords))]) [.raise (.c (.str [97,32,110,97,109,101,32,105,115,32,109,105,115,115,105,110,103])) (.idx (.v 1) (.c (.int 2)))] [],
  .augA (.v 0) 1,
  .ret false (.tup [(.idx (.v 1) (.c (.int 1))),(.idx (.v 1) (.c (.int 2)))])]⟩
 ⟨1,[],2,[
  .asg 1 (.wm .wPeek (.v 0) []),
  .if_ (.bop false [(.cmp .ne (.idx (.v 1) (.c (.int 0))) (.c (.str [115,105,103,110]))),(.cmp .ne (.slHi false (.idx (.v 1) (.c (.int 1))) (.c (.int 1))) (.c (.str [62])))]) [.raise (.c (.str [62,32,105,115,32,109,105,115,115,105,110,103])) (.idx (.v 1) (.c (.int 2)))] [],
  .if_ (.cmp .eq (.idx (.v 1) (.c (.int 1))) (.c (.str [62]))) [.augA (.v 0) 1] [.setI (.rows (.v 0)) (.wat (.v 0)) (.tup [(.c (.str [115,105,103,110])),(.slLo (.idx (.v 1) (.c (.int 1))) (.c (.int 1))),(.bin .add (.idx (.v 1) (.c (.int 2))) (.c (.int 1))),(.c .none),(.c .none)])],
  .ret false (.tup [(.c (.str [115,105,103,110])),(.c (.str [62])),(.idx (.v 1) (.c (.int 2))),(.c .none),(.c .none)])]⟩
 ⟨1,[],3,[
  .asg 1 (.wm .wPeek (.v 0) []),
  .asg 2 (.idx (.v 1) (.c (.int 2))),
  .if_ (.wm .wLooks (.v 0) [(.c (.str [40]))]) [.ret false (.call .readParenType [(.v 0)])] [],
  .if_ (.bop false [(.wm .wLooks (.v 0) [(.c (.str [38]))]),(.wm .wLooks (.v 0) [(.c (.str [38,38]))])]) [.ret false (.call .readRefType [(.v 0)])] [],
  .if_ (.wm .wLooks (.v 0) [(.c (.str [91]))]) [.ret false (.call .readArrayType [(.v 0)])] [],
  .if_ (.wm .wLooks (.v 0) [(.c (.str [33]))]) [.ex (.wm .wTake (.v 0) []),.ret false (.tup [(.c (.str [110,101,118,101,114])),(.v 2)])] [],
  .if_ (.wm .wLooks (.v 0) [(.c (.str [95]))]) [.ex (.wm .wTake (.v 0) []),.ret false (.tup [(.c (.str [105,110,102,101,114])),(.v 2)])] [],
  .ret false (.tup [(.c (.str [112,97,116,104])),(.v 2),(.call .readSpath [(.v 0)])])]⟩
 ⟨1,[],4,[
  .asg 1 (.idx (.wm .wExpect (.v 0) [(.c (.str [40]))]) (.c (.int 2))),
  .asgP [2,3] [(.lst true []),(.c (.bool true))],
  .while_ (.not (.wm .wLooks (.v 0) [(.c (.str [41]))])) [.app 2 (.call .readType [(.v 0)]),.asg 3 (.wm .wLooks (.v 0) [(.c (.str [44]))]),.if_ (.not (.v 3)) [.brk] [],.ex (.wm .wTake (.v 0) [])],
  .ex (.wm .wExpect (.v 0) [(.c (.str [41]))]),
  .if_ (.bop true [(.cmp .eq (.prim .len false [(.v 2)]) (.c (.int 1))),(.not (.v 3))]) [.ret false (.idx (.v 2) (.c (.int 0)))] [],
  .ret false (.tup [(.c (.str [116,117,112,108,101])),(.v 1),(.prim .tuple false [(.v 2)])])]⟩
 ⟨1,[],6,[
  .asg 1 (.wm .wTake (.v 0) []),
  .asg 2 (.bin .sub (.bin .add (.idx (.v 1) (.c (.int 2))) (.prim .len false [(.idx (.v 1) (.c (.int 1)))])) (.c (.int 1))),
  .asg 3 (.c .none),
  .if_ (.cmp .eq (.idx (.wm .wPeek (.v 0) []) (.c (.int 0))) (.c (.str [114,101,103,105,111,110]))) [.asg 3 (.idx (.wm .wTake (.v 0) []) (.c (.int 1)))] [],
  .asg 4 (.wm .wLooks (.v 0) [(.c (.str [109,117,116]))]),
  .if_ (.v 4) [.ex (.wm .wTake (.v 0) [])] [],
  .asg 5 (.tup [(.c (.str [114,101,102])),(.v 2),(.v 3),(.v 4),(.call .readType [(.v 0)])]),
  .ret false (.ite (.cmp .eq (.idx (.v 1) (.c (.int 1))) (.c (.str [38]))) (.v 5) (.tup [(.c (.str [114,101,102])),(.idx (.v 1) (.c (.int 2))),(.c .none),(.c (.bool false)),(.v 5)]))]⟩
 ⟨1,[],4,[
  .asg 1 (.idx (.wm .wExpect (.v 0) [(.c (.str [91]))]) (.c (.int 2))),
  .asg 2 (.call .readType [(.v 0)]),
  .ex (.wm .wExpect (.v 0) [(.c (.str [59]))]),
  .asg 3 (.wm .wTake (.v 0) []),
  .if_ (.bop false [(.cmp .ne (.idx (.v 3) (.c (.int 0))) (.c (.str [105,110,116]))),(.cmp .notIn (.idx (.v 3) (.c (.int 4))) (.tup [(.c .none),(.c (.str [117,115,105,122,101]))]))]) [.raise (.c (.str [116,104,101,32,108,101,110,103,116,104,32,111,102,32,97,110,32,97,114,114,97,121,32,105,115,32,109,105,115,115,105,110,103])) (.idx (.v 3) (.c (.int 2)))] [],
  .ex (.wm .wExpect (.v 0) [(.c (.str [93]))]),
  .ret false (.tup [(.c (.str [97,114,114,97,121])),(.v 1),(.v 2),(.idx (.v 3) (.c (.int 3)))])]⟩
 ⟨2,[(.bool false)],4,[
  .asg 2 (.lst true [(.call .readSegment [(.v 0),(.tup []),(.v 1)])]),
  .while_ (.wm .wLooks (.v 0) [(.c (.str [58,58]))]) [.ex (.wm .wTake (.v 0) []),.app 2 (.call .readSegment [(.v 0),(.prim .tuple false [(.comp false (.idx (.v 3) (.c (.int 0))) [3] (.v 2))]),(.v 1)])],
  .ret false (.prim .tuple false [(.v 2)])]⟩
 ⟨3,[],4,[
  .asg 3 (.call .readPathName [(.v 0),(.v 1)]),
  .if_ (.bop true [(.wm .wLooks (.v 0) [(.c (.str [58,58]))]),(.wm .wLooks (.v 0) [(.c (.str [60])),(.c (.int 1))])]) [.ex (.wm .wTake (.v 0) []),.ret false (.bin .add (.tup [(.v 3)]) (.call .readArguments [(.v 0)]))] [],
  .if_ (.bop true [(.not (.v 2)),(.wm .wLooks (.v 0) [(.c (.str [60]))])]) [.ret false (.bin .add (.tup [(.v 3)]) (.call .readArguments [(.v 0)]))] [],
  .ret false (.tup [(.v 3),(.tup []),(.tup [])])]⟩
 ⟨2,[],3,[
  .asg 2 (.wm .wPeek (.v 0) []),
  .if_ (.bop true [(.cmp .eq (.idx (.v 2) (.c (.int 0))) (.c (.str [110,97,109,101]))),(.cmp .isIn (.idx (.v 2) (.c (.int 1))) (.g .pathWords))]) [.if_ (.bop false [(.cmp .eq (.v 1) (.tup [])),(.bop true [(.cmp .eq (.idx (.v 2) (.c (.int 1))) (.c (.str [115,117,112,101,114]))),(.cmp .isIn (.idx (.v 1) (.neg (.c (.int 1)))) (.tup [(.c (.str [115,117,112,101,114])),(.c (.str [115,101,108,102]))]))])]) [.ex (.wm .wTake (.v 0) []),.ret false (.idx (.v 2) (.c (.int 1)))] [],.raise (.bin .add (.idx (.v 2) (.c (.int 1))) (.c (.str [32,115,116,97,110,100,115,32,97,116,32,116,104,101,32,98,101,103,105,110,32,111,102,32,97,32,112,97,116,104,32,97,108,111,110,101]))) (.idx (.v 2) (.c (.int 2)))] [],
  .ret false (.idx (.wm .wName (.v 0) []) (.c (.int 0)))]⟩
 ⟨1,[],3,[
  .ex (.wm .wExpect (.v 0) [(.c (.str [60]))]),
  .asgP [1,2] [(.lst true []),(.lst true [])],
  .while_ (.not (.call .isClosed [(.v 0)])) [.if_ (.cmp .eq (.idx (.wm .wPeek (.v 0) []) (.c (.int 0))) (.c (.str [114,101,103,105,111,110]))) [.if_ (.cmp .ne (.v 2) (.lst false [])) [.raise (.c (.str [114,101,103,105,111,110,115,32,115,116,97,110,100,32,97,104,101,97,100,32,111,102,32,116,121,112,101,115])) (.idx (.wm .wPeek (.v 0) []) (.c (.int 2)))] [],.app 1 (.idx (.wm .wTake (.v 0) []) (.c (.int 1)))] [.app 2 (.call .readType [(.v 0)])],.if_ (.not (.wm .wLooks (.v 0) [(.c (.str [44]))])) [.brk] [],.ex (.wm .wTake (.v 0) [])],
  .ex (.wm .wSplitClose (.v 0) []),
  .ret false (.tup [(.prim .tuple false [(.v 1)]),(.prim .tuple false [(.v 2)])])]⟩
 ⟨1,[],2,[
  .asg 1 (.wm .wPeek (.v 0) []),
  .ret false (.bop true [(.cmp .eq (.idx (.v 1) (.c (.int 0))) (.c (.str [115,105,103,110]))),(.cmp .eq (.slHi false (.idx (.v 1) (.c (.int 1))) (.c (.int 1))) (.c (.str [62])))])]⟩
 ⟨1,[],3,[
  .if_ (.not (.wm .wLooks (.v 0) [(.c (.str [60]))])) [.ret false (.tup [(.tup []),(.tup [])])] [],
  .ex (.wm .wTake (.v 0) []),
  .asgP [1,2] [(.lst true []),(.lst true [])],
  .while_ (.not (.call .isClosed [(.v 0)])) [.if_ (.cmp .eq (.idx (.wm .wPeek (.v 0) []) (.c (.int 0))) (.c (.str [114,101,103,105,111,110]))) [.if_ (.cmp .ne (.v 2) (.lst false [])) [.raise (.c (.str [114,101,103,105,111,110,115,32,115,116,97,110,100,32,97,104,101,97,100,32,111,102,32,116,121,112,101,115])) (.idx (.wm .wPeek (.v 0) []) (.c (.int 2)))] [],.app 1 (.idx (.wm .wTake (.v 0) []) (.c (.int 1)))] [.app 2 (.call .readParam [(.v 0)])],.if_ (.not (.wm .wLooks (.v 0) [(.c (.str [44]))])) [.brk] [],.ex (.wm .wTake (.v 0) [])],
  .ex (.wm .wSplitClose (.v 0) []),
  .ret false (.tup [(.prim .tuple false [(.v 1)]),(.prim .tuple false [(.v 2)])])]⟩
 ⟨1,[],3,[
  .asg 1 (.idx (.wm .wName (.v 0) []) (.c (.int 0))),
  .asg 2 (.lst true []),
  .if_ (.wm .wLooks (.v 0) [(.c (.str [58]))]) [.ex (.wm .wTake (.v 0) []),.app 2 (.call .readSpath [(.v 0)]),.while_ (.wm .wLooks (.v 0) [(.c (.str [43]))]) [.ex (.wm .wTake (.v 0) []),.app 2 (.call .readSpath [(.v 0)])]] [],
  .ret false (.tup [(.v 1),(.prim .tuple false [(.v 2)])])]⟩
 ⟨1,[],1,[
  .ret false (.bop true [(.cmp .eq (.idx (.v 0) (.c (.int 0))) (.c (.str [110,97,109,101]))),(.cmp .notIn (.idx (.v 0) (.c (.int 1))) (.g .keywords))])]⟩
 ⟨1,[],3,[
  .asg 1 (.idx (.wm .wPeek (.v 0) []) (.c (.int 2))),
  .if_ (.wm .wLooks (.v 0) [(.c (.str [124]))]) [.ex (.wm .wTake (.v 0) [])] [],
  .asg 2 (.lst true [(.call .readPart [(.v 0)])]),
  .while_ (.wm .wLooks (.v 0) [(.c (.str [124]))]) [.ex (.wm .wTake (.v 0) []),.app 2 (.call .readPart [(.v 0)])],
  .ret false (.ite (.cmp .eq (.prim .len false [(.v 2)]) (.c (.int 1))) (.idx (.v 2) (.c (.int 0))) (.tup [(.c (.str [111,114])),(.v 1),(.prim .tuple false [(.v 2)])]))]⟩
 ⟨1,[],3,[
  .asg 1 (.wm .wPeek (.v 0) []),
  .asg 2 (.idx (.v 1) (.c (.int 2))),
  .if_ (.wm .wLooks (.v 0) [(.c (.str [95]))]) [.ex (.wm .wTake (.v 0) []),.ret false (.tup [(.c (.str [119,105,108,100])),(.v 2)])] [],
  .if_ (.bop false [(.wm .wLooks (.v 0) [(.c (.str [38]))]),(.wm .wLooks (.v 0) [(.c (.str [38,38]))])]) [.ret false (.call .readRefPattern [(.v 0)])] [],
  .if_ (.wm .wLooks (.v 0) [(.c (.str [40]))]) [.ret false (.call .readParenPattern [(.v 0)])] [],
  .if_ (.bop false [(.cmp .eq (.idx (.v 1) (.c (.int 0))) (.c (.str [105,110,116]))),(.wm .wLooks (.v 0) [(.c (.str [45]))])]) [.ret false (.call .readNumber [(.v 0)])] [],
  .if_ (.bop false [(.wm .wLooks (.v 0) [(.c (.str [116,114,117,101]))]),(.wm .wLooks (.v 0) [(.c (.str [102,97,108,115,101]))])]) [.ex (.wm .wTake (.v 0) []),.ret false (.tup [(.c (.str [108,105,116])),(.v 2),(.cmp .eq (.idx (.v 1) (.c (.int 1))) (.c (.str [116,114,117,101])))])] [],
  .if_ (.bop false [(.wm .wLooks (.v 0) [(.c (.str [114,101,102]))]),(.wm .wLooks (.v 0) [(.c (.str [109,117,116]))])]) [.ret false (.call .readBinding [(.v 0)])] [],
  .if_ (.bop true [(.call .isPlainName [(.v 1)]),(.call .isAlone [(.v 0)])]) [.ret false (.call .readBinding [(.v 0)])] [],
  .if_ (.bop false [(.call .isPlainName [(.v 1)]),(.bop true [(.cmp .eq (.idx (.v 1) (.c (.int 0))) (.c (.str [110,97,109,101]))),(.cmp .isIn (.idx (.v 1) (.c (.int 1))) (.g .pathWords))])]) [.ret false (.call .readVariant [(.v 0)])] [],
  .raise (.c (.str [97,32,112,97,116,116,101,114,110,32,105,115,32,109,105,115,115,105,110,103])) (.v 2)]⟩
 ⟨1,[],2,[
  .for_ [1] (.tup [(.c (.str [58,58])),(.c (.str [40])),(.c (.str [123]))]) [.if_ (.wm .wLooks (.v 0) [(.v 1),(.c (.int 1))]) [.ret false (.c (.bool false))] []],
  .ret false (.c (.bool true))]⟩
 ⟨1,[],5,[
  .asg 1 (.wm .wTake (.v 0) []),
  .asg 2 (.bin .sub (.bin .add (.idx (.v 1) (.c (.int 2))) (.prim .len false [(.idx (.v 1) (.c (.int 1)))])) (.c (.int 1))),
  .asg 3 (.wm .wLooks (.v 0) [(.c (.str [109,117,116]))]),
  .if_ (.v 3) [.ex (.wm .wTake (.v 0) [])] [],
  .asg 4 (.tup [(.c (.str [114,101,102])),(.v 2),(.v 3),(.call .readPart [(.v 0)])]),
  .ret false (.ite (.cmp .eq (.idx (.v 1) (.c (.int 1))) (.c (.str [38]))) (.v 4) (.tup [(.c (.str [114,101,102])),(.idx (.v 1) (.c (.int 2))),(.c (.bool false)),(.v 4)]))]⟩
 ⟨1,[],4,[
  .asg 1 (.idx (.wm .wExpect (.v 0) [(.c (.str [40]))]) (.c (.int 2))),
  .asgP [2,3] [(.lst true []),(.c (.bool true))],
  .while_ (.not (.wm .wLooks (.v 0) [(.c (.str [41]))])) [.app 2 (.call .readPattern [(.v 0)]),.asg 3 (.wm .wLooks (.v 0) [(.c (.str [44]))]),.if_ (.not (.v 3)) [.brk] [],.ex (.wm .wTake (.v 0) [])],
  .ex (.wm .wExpect (.v 0) [(.c (.str [41]))]),
  .if_ (.bop true [(.cmp .eq (.prim .len false [(.v 2)]) (.c (.int 1))),(.not (.v 3))]) [.ret false (.idx (.v 2) (.c (.int 0)))] [],
  .ret false (.tup [(.c (.str [116,117,112,108,101])),(.v 1),(.prim .tuple false [(.v 2)])])]⟩
 ⟨1,[],3,[
  .asg 1 (.wm .wLooks (.v 0) [(.c (.str [45]))]),
  .if_ (.v 1) [.ex (.wm .wTake (.v 0) [])] [],
  .asg 2 (.wm .wTake (.v 0) []),
  .if_ (.cmp .ne (.idx (.v 2) (.c (.int 0))) (.c (.str [105,110,116]))) [.raise (.c (.str [97,32,110,117,109,98,101,114,32,105,115,32,109,105,115,115,105,110,103])) (.idx (.v 2) (.c (.int 2)))] [],
  .if_ (.cmp .isNot (.idx (.v 2) (.c (.int 4))) (.c .none)) [.raise (.c (.str [97,32,110,117,109,98,101,114,32,111,102,32,97,32,112,97,116,116,101,114,110,32,116,101,108,108,115,32,110,111,32,107,105,110,100])) (.idx (.v 2) (.c (.int 2)))] [],
  .ret false (.ite (.v 1) (.bin .sub (.c (.int 0)) (.idx (.v 2) (.c (.int 3)))) (.idx (.v 2) (.c (.int 3))))]⟩
 ⟨1,[],3,[
  .asg 1 (.idx (.wm .wPeek (.v 0) []) (.c (.int 2))),
  .asg 2 (.call .readWhole [(.v 0)]),
  .if_ (.not (.wm .wLooks (.v 0) [(.c (.str [46,46,61]))])) [.ret false (.tup [(.c (.str [108,105,116])),(.v 1),(.v 2)])] [],
  .ex (.wm .wTake (.v 0) []),
  .ret false (.tup [(.c (.str [114,97,110,103,101])),(.v 1),(.v 2),(.call .readWhole [(.v 0)])])]⟩
 ⟨1,[],6,[
  .asg 1 (.idx (.wm .wPeek (.v 0) []) (.c (.int 2))),
  .asg 2 (.wm .wLooks (.v 0) [(.c (.str [114,101,102]))]),
  .if_ (.v 2) [.ex (.wm .wTake (.v 0) [])] [],
  .asg 3 (.wm .wLooks (.v 0) [(.c (.str [109,117,116]))]),
  .if_ (.v 3) [.ex (.wm .wTake (.v 0) [])] [],
  .asg 4 (.idx (.wm .wName (.v 0) []) (.c (.int 0))),
  .asg 5 (.c .none),
  .if_ (.wm .wLooks (.v 0) [(.c (.str [64]))]) [.ex (.wm .wTake (.v 0) []),.asg 5 (.call .readPart [(.v 0)])] [],
  .ret false (.tup [(.c (.str [110,97,109,101])),(.v 1),(.v 4),(.v 2),(.v 3),(.v 5)])]⟩
 ⟨1,[],5,[
  .asg 1 (.idx (.wm .wPeek (.v 0) []) (.c (.int 2))),
  .asg 2 (.call .readSpath [(.v 0),(.c (.bool true))]),
  .if_ (.wm .wLooks (.v 0) [(.c (.str [40]))]) [.ret false (.tup [(.c (.str [118,97,114,105,97,110,116])),(.v 1),(.v 2),(.call .readPlaces [(.v 0)])])] [],
  .if_ (.wm .wLooks (.v 0) [(.c (.str [123]))]) [.asgT [3,4] (.call .readFields [(.v 0)]),.ret false (.tup [(.c (.str [102,105,101,108,100,115])),(.v 1),(.v 2),(.v 3),(.v 4)])] [],
  .ret false (.tup [(.c (.str [118,97,114,105,97,110,116])),(.v 1),(.v 2),(.tup [])])]⟩
 ⟨1,[],2,[
  .ex (.wm .wExpect (.v 0) [(.c (.str [40]))]),
  .asg 1 (.lst true []),
  .while_ (.not (.wm .wLooks (.v 0) [(.c (.str [41]))])) [.app 1 (.call .readPattern [(.v 0)]),.if_ (.not (.wm .wLooks (.v 0) [(.c (.str [44]))])) [.brk] [],.ex (.wm .wTake (.v 0) [])],
  .ex (.wm .wExpect (.v 0) [(.c (.str [41]))]),
  .ret false (.prim .tuple false [(.v 1)])]⟩
 ⟨1,[],3,[
  .ex (.wm .wExpect (.v 0) [(.c (.str [123]))]),
  .asgP [1,2] [(.lst true []),(.c (.bool false))],
  .while_ (.not (.wm .wLooks (.v 0) [(.c (.str [125]))])) [.if_ (.wm .wLooks (.v 0) [(.c (.str [46,46]))]) [.ex (.wm .wTake (.v 0) []),.asg 2 (.c (.bool true)),.brk] [],.app 1 (.call .readField [(.v 0)]),.if_ (.not (.wm .wLooks (.v 0) [(.c (.str [44]))])) [.brk] [],.ex (.wm .wTake (.v 0) [])],
  .ex (.wm .wExpect (.v 0) [(.c (.str [125]))]),
  .ret false (.tup [(.prim .tuple false [(.v 1)]),(.v 2)])]⟩
 ⟨1,[],3,[
  .asg 1 (.wm .wPeek (.v 0) []),
  .if_ (.bop true [(.cmp .eq (.idx (.v 1) (.c (.int 0))) (.c (.str [105,110,116]))),(.cmp .is (.idx (.v 1) (.c (.int 4))) (.c .none))]) [.ex (.wm .wTake (.v 0) []),.ex (.wm .wExpect (.v 0) [(.c (.str [58]))]),.ret false (.tup [(.prim .str false [(.idx (.v 1) (.c (.int 3)))]),(.call .readPattern [(.v 0)])])] [],
  .if_ (.bop true [(.call .isPlainName [(.v 1)]),(.wm .wLooks (.v 0) [(.c (.str [58])),(.c (.int 1))])]) [.ex (.wm .wTake (.v 0) []),.ex (.wm .wTake (.v 0) []),.ret false (.tup [(.idx (.v 1) (.c (.int 1))),(.call .readPattern [(.v 0)])])] [],
  .asg 2 (.call .readBinding [(.v 0)]),
  .if_ (.cmp .isNot (.idx (.v 2) (.c (.int 5))) (.c .none)) [.raise (.c (.str [97,32,102,105,101,108,100,39,115,32,110,97,109,101,32,97,108,111,110,101,32,105,115,32,110,111,32,112,97,116,116,101,114,110,32,119,105,116,104,32,64])) (.idx (.v 2) (.c (.int 1)))] [],
  .ret false (.tup [(.idx (.v 2) (.c (.int 2))),(.v 2)])]⟩
 ⟨2,[],5,[
  .asg 2 (.ite (.cmp .lt (.v 1) (.prim .len false [(.v 0)])) (.idx (.v 0) (.v 1)) (.c (.int 0))),
  .asg 3 (.prim .max false [(.v 2),(.bin .sub (.neg (.c (.int 1))) (.v 2))]),
  .asg 4 (.bin .mod (.bin .mul (.bin .add (.bin .add (.bin .add (.bin .mod (.v 3) (.c (.int 2147483629))) (.bin .mul (.bin .mul (.c (.int 7919)) (.v 1)) (.v 1))) (.bin .mul (.c (.int 31)) (.v 1))) (.c (.int 17))) (.c (.int 48271))) (.c (.int 2147483647))),
  .ret true (.lst true [(.ite (.cmp .ge (.v 3) (.bin .pow (.c (.int 10)) (.c (.int 18)))) (.v 3) (.c (.int 0))),(.v 4)])]⟩
 ⟨2,[],3,[
  .if_ (.cmp .gt (.idx (.v 0) (.c (.int 0))) (.c (.int 0))) [.asg 2 (.bin .mod (.idx (.v 0) (.c (.int 0))) (.v 1)),.setI (.v 0) (.c (.int 0)) (.bin .fdiv (.idx (.v 0) (.c (.int 0))) (.v 1)),.ret false (.v 2)] [],
  .setI (.v 0) (.c (.int 1)) (.bin .mod (.bin .add (.bin .mul (.idx (.v 0) (.c (.int 1))) (.c (.int 39373))) (.c (.int 7))) (.c (.int 2147483647))),
  .ret false (.bin .mod (.bin .fdiv (.bin .mod (.bin .mul (.idx (.v 0) (.c (.int 1))) (.idx (.v 0) (.c (.int 1)))) (.c (.int 2147483629))) (.c (.int 32))) (.v 1))]⟩
 ⟨2,[],2,[
  .ret false (.idx (.v 1) (.call .lawTake [(.v 0),(.prim .len false [(.v 1)])]))]⟩
 ⟨2,[],8,[
  .asg 2 (.lst true []),
  .for_ [3] (.prim .range false [(.bin .add (.c (.int 1)) (.call .lawTake [(.v 0),(.c (.int 2))]))]) [.asg 4 (.call .lawOne [(.v 0),(.lst false [(.c (.str [84])),(.c (.str [97])),(.c (.str [86,101,99,56]))])]),.if_ (.bop true [(.cmp .eq (.v 3) (.c (.int 0))),(.cmp .eq (.call .lawTake [(.v 0),(.c (.int 4))]) (.c (.int 0)))]) [.asg 4 (.call .lawOne [(.v 0),(.lst false [(.c (.str [83,101,108,102])),(.c (.str [99,114,97,116,101])),(.c (.str [115,117,112,101,114])),(.c (.str [115,101,108,102]))])])] [],.asgP [5,6] [(.tup []),(.tup [])],.if_ (.bop true [(.cmp .gt (.v 1) (.c (.int 0))),(.cmp .eq (.call .lawTake [(.v 0),(.c (.int 2))]) (.c (.int 0)))]) [.asg 5 (.call .lawOne [(.v 0),(.lst false [(.tup []),(.tup []),(.tup [(.c (.str [39,97]))]),(.tup [(.c (.str [39,97])),(.c (.str [39,115,116,97,116,105,99]))])])]),.asg 6 (.prim .tuple false [(.comp false (.call .lawType [(.v 0),(.bin .sub (.v 1) (.c (.int 1)))]) [7] (.prim .range false [(.call .lawTake [(.v 0),(.c (.int 3))])]))])] [],.app 2 (.tup [(.v 4),(.v 5),(.v 6)])],
  .ret false (.prim .tuple false [(.v 2)])]⟩
 ⟨2,[],4,[
  .asg 2 (.ite (.cmp .gt (.v 1) (.c (.int 0))) (.call .lawTake [(.v 0),(.c (.int 7))]) (.call .lawOne [(.v 0),(.lst false [(.c (.int 0)),(.c (.int 0)),(.c (.int 5)),(.c (.int 6))])])),
  .if_ (.cmp .lt (.v 2) (.c (.int 2))) [.ret false (.tup [(.c (.str [112,97,116,104])),(.c (.int 0)),(.call .lawPath [(.v 0),(.v 1)])])] [],
  .if_ (.cmp .eq (.v 2) (.c (.int 2))) [.ret false (.tup [(.c (.str [114,101,102])),(.c (.int 0)),(.call .lawOne [(.v 0),(.lst false [(.c .none),(.c .none),(.c (.str [39,97]))])]),(.cmp .eq (.call .lawTake [(.v 0),(.c (.int 2))]) (.c (.int 0))),(.call .lawType [(.v 0),(.bin .sub (.v 1) (.c (.int 1)))])])] [],
  .if_ (.cmp .eq (.v 2) (.c (.int 3))) [.ret false (.tup [(.c (.str [116,117,112,108,101])),(.c (.int 0)),(.prim .tuple false [(.comp false (.call .lawType [(.v 0),(.bin .sub (.v 1) (.c (.int 1)))]) [3] (.prim .range false [(.call .lawTake [(.v 0),(.c (.int 3))])]))])])] [],
  .if_ (.cmp .eq (.v 2) (.c (.int 4))) [.ret false (.tup [(.c (.str [97,114,114,97,121])),(.c (.int 0)),(.call .lawType [(.v 0),(.bin .sub (.v 1) (.c (.int 1)))]),(.call .lawOne [(.v 0),(.lst false [(.c (.int 0)),(.c (.int 3)),(.c (.int 8))])])])] [],
  .ret false (.ite (.cmp .eq (.v 2) (.c (.int 5))) (.tup [(.c (.str [110,101,118,101,114])),(.c (.int 0))]) (.tup [(.c (.str [105,110,102,101,114])),(.c (.int 0))]))]⟩
 ⟨1,[],4,[
  .asg 1 (.lst true []),
  .for_ [2] (.slHi false (.lst false [(.c (.str [84])),(.c (.str [85]))]) (.call .lawTake [(.v 0),(.c (.int 3))])) [.app 1 (.tup [(.v 2),(.prim .tuple false [(.comp false (.call .lawPath [(.v 0),(.c (.int 1))]) [3] (.prim .range false [(.call .lawTake [(.v 0),(.c (.int 3))])]))])])],
  .ret false (.tup [(.call .lawOne [(.v 0),(.lst false [(.tup []),(.tup [(.c (.str [39,97]))]),(.tup [(.c (.str [39,97])),(.c (.str [39,98]))])])]),(.prim .tuple false [(.v 1)])])]⟩
 ⟨2,[],3,[
  .asg 2 (.ite (.bop true [(.cmp .gt (.v 1) (.c (.int 0))),(.cmp .eq (.call .lawTake [(.v 0),(.c (.int 4))]) (.c (.int 0)))]) (.call .lawSort [(.v 0),(.bin .sub (.v 1) (.c (.int 1)))]) (.c .none)),
  .ret false (.tup [(.c (.str [110,97,109,101])),(.c (.int 0)),(.call .lawOne [(.v 0),(.lst false [(.c (.str [120])),(.c (.str [121])),(.c (.str [99,111,117,110,116]))])]),(.cmp .eq (.call .lawTake [(.v 0),(.c (.int 3))]) (.c (.int 0))),(.cmp .eq (.call .lawTake [(.v 0),(.c (.int 3))]) (.c (.int 0))),(.v 2)])]⟩
 ⟨2,[],4,[
  .asg 2 (.lst true []),
  .for_ [3] (.slHi false (.lst false [(.c (.str [120])),(.c (.str [48])),(.c (.str [121]))]) (.call .lawTake [(.v 0),(.c (.int 4))])) [.if_ (.bop true [(.cmp .ne (.v 3) (.c (.str [48]))),(.cmp .eq (.call .lawTake [(.v 0),(.c (.int 2))]) (.c (.int 0)))]) [.app 2 (.tup [(.v 3),(.tup [(.c (.str [110,97,109,101])),(.c (.int 0)),(.v 3),(.cmp .eq (.call .lawTake [(.v 0),(.c (.int 2))]) (.c (.int 0))),(.cmp .eq (.call .lawTake [(.v 0),(.c (.int 2))]) (.c (.int 0))),(.c .none)])])] [.app 2 (.tup [(.v 3),(.call .lawSort [(.v 0),(.bin .sub (.v 1) (.c (.int 1)))])])]],
  .ret false (.tup [(.c (.str [102,105,101,108,100,115])),(.c (.int 0)),(.call .lawPath [(.v 0),(.c (.int 0))]),(.prim .tuple false [(.v 2)]),(.cmp .eq (.call .lawTake [(.v 0),(.c (.int 2))]) (.c (.int 0)))])]⟩
 ⟨2,[],5,[
  .asg 2 (.ite (.cmp .gt (.v 1) (.c (.int 0))) (.call .lawTake [(.v 0),(.c (.int 9))]) (.call .lawTake [(.v 0),(.c (.int 4))])),
  .if_ (.cmp .eq (.v 2) (.c (.int 0))) [.ret false (.tup [(.c (.str [119,105,108,100])),(.c (.int 0))])] [],
  .if_ (.cmp .eq (.v 2) (.c (.int 1))) [.ret false (.call .lawName [(.v 0),(.v 1)])] [],
  .if_ (.cmp .eq (.v 2) (.c (.int 2))) [.ret false (.tup [(.c (.str [108,105,116])),(.c (.int 0)),(.call .lawOne [(.v 0),(.lst false [(.c (.int 0)),(.c (.int 7)),(.neg (.c (.int 1))),(.neg (.c (.int 128))),(.c (.bool true)),(.c (.bool false))])])])] [],
  .if_ (.cmp .eq (.v 2) (.c (.int 3))) [.ret false (.tup [(.c (.str [114,97,110,103,101])),(.c (.int 0)),(.call .lawOne [(.v 0),(.lst false [(.neg (.c (.int 5))),(.c (.int 0)),(.c (.int 3))])]),(.call .lawOne [(.v 0),(.lst false [(.neg (.c (.int 2))),(.c (.int 0)),(.c (.int 9))])])])] [],
  .asg 3 (.prim .tuple false [(.comp false (.call .lawSort [(.v 0),(.bin .sub (.v 1) (.c (.int 1)))]) [4] (.prim .range false [(.call .lawTake [(.v 0),(.c (.int 3))])]))]),
  .if_ (.cmp .eq (.v 2) (.c (.int 4))) [.ret false (.tup [(.c (.str [116,117,112,108,101])),(.c (.int 0)),(.v 3)])] [],
  .if_ (.cmp .eq (.v 2) (.c (.int 5))) [.ret false (.tup [(.c (.str [118,97,114,105,97,110,116])),(.c (.int 0)),(.call .lawPath [(.v 0),(.c (.int 1))]),(.v 3)])] [],
  .if_ (.cmp .eq (.v 2) (.c (.int 6))) [.ret false (.call .lawFields [(.v 0),(.v 1)])] [],
  .if_ (.cmp .eq (.v 2) (.c (.int 7))) [.ret false (.tup [(.c (.str [114,101,102])),(.c (.int 0)),(.cmp .eq (.call .lawTake [(.v 0),(.c (.int 2))]) (.c (.int 0))),(.call .lawSort [(.v 0),(.bin .sub (.v 1) (.c (.int 1)))])])] [],
  .ret false (.tup [(.c (.str [111,114])),(.c (.int 0)),(.bin .add (.v 3) (.tup [(.call .lawSort [(.v 0),(.bin .sub (.v 1) (.c (.int 1)))]),(.call .lawSort [(.v 0),(.bin .sub (.v 1) (.c (.int 1)))])]))])]⟩
 ⟨1,[],1,[
  .ret false (.call .lawOne [(.v 0),(.lst false [(.c (.str [])),(.c (.str [32])),(.c (.str [47,42,32,62,32,42,47])),(.c (.str [10]))])])]⟩
 ⟨5,[],6,[
  .asg 5 (.ite (.bop true [(.cmp .ne (.v 1) (.lst false [])),(.bop false [(.cmp .eq (.call .lawTake [(.v 0),(.c (.int 2))]) (.c (.int 0))),(.bop true [(.v 4),(.cmp .eq (.prim .len false [(.v 1)]) (.c (.int 1)))])])]) (.c (.str [44])) (.c (.str []))),
  .ret false (.bin .add (.bin .add (.bin .add (.bin .add (.bin .add (.v 2) (.call .lawGap [(.v 0)])) (.mth .join (.bin .add (.c (.str [44])) (.call .lawGap [(.v 0)])) [(.v 1)])) (.v 5)) (.call .lawGap [(.v 0)])) (.v 3))]⟩
 ⟨3,[],11,[
  .asg 3 (.lst true []),
  .for_ [4,5,6] (.v 1) [.asg 7 (.v 4),.if_ (.bop false [(.cmp .ne (.v 5) (.tup [])),(.cmp .ne (.v 6) (.tup []))]) [.asg 8 (.bin .add (.comp false (.bin .add (.v 9) (.c (.str [32]))) [9] (.v 5)) (.comp false (.call .lawTypeText [(.v 0),(.v 10)]) [10] (.v 6))),.asg 7 (.bin .add (.bin .add (.v 7) (.ite (.bop true [(.v 2),(.cmp .eq (.call .lawTake [(.v 0),(.c (.int 2))]) (.c (.int 0)))]) (.c (.str [])) (.c (.str [58,58])))) (.call .lawRow [(.v 0),(.v 8),(.c (.str [60])),(.c (.str [62])),(.c (.bool false))]))] [],.app 3 (.v 7)],
  .ret false (.mth .join (.bin .add (.call .lawGap [(.v 0)]) (.c (.str [58,58]))) [(.v 3)])]⟩
 ⟨2,[],5,[
  .asg 2 (.idx (.v 1) (.c (.int 0))),
  .if_ (.cmp .eq (.v 2) (.c (.str [112,97,116,104]))) [.asg 3 (.call .lawPathText [(.v 0),(.idx (.v 1) (.c (.int 2))),(.c (.bool true))])] [.if_ (.cmp .eq (.v 2) (.c (.str [114,101,102]))) [.asg 3 (.bin .add (.bin .add (.bin .add (.c (.str [38])) (.ite (.cmp .isNot (.idx (.v 1) (.c (.int 2))) (.c .none)) (.bin .add (.idx (.v 1) (.c (.int 2))) (.c (.str [32]))) (.c (.str [])))) (.ite (.idx (.v 1) (.c (.int 3))) (.c (.str [109,117,116,32])) (.c (.str [])))) (.call .lawTypeText [(.v 0),(.idx (.v 1) (.c (.int 4)))]))] [.if_ (.cmp .eq (.v 2) (.c (.str [116,117,112,108,101]))) [.asg 3 (.call .lawRow [(.v 0),(.comp false (.call .lawTypeText [(.v 0),(.v 4)]) [4] (.idx (.v 1) (.c (.int 2)))),(.c (.str [40])),(.c (.str [41])),(.c (.bool true))])] [.if_ (.cmp .eq (.v 2) (.c (.str [97,114,114,97,121]))) [.asg 3 (.bin .add (.bin .add (.bin .add (.bin .add (.bin .add (.c (.str [91])) (.call .lawTypeText [(.v 0),(.idx (.v 1) (.c (.int 2)))])) (.call .lawGap [(.v 0)])) (.c (.str [59]))) (.prim .str false [(.idx (.v 1) (.c (.int 3)))])) (.c (.str [117,115,105,122,101,93])))] [.asg 3 (.ite (.cmp .eq (.v 2) (.c (.str [110,101,118,101,114]))) (.c (.str [33])) (.c (.str [95])))]]]],
  .ret false (.ite (.cmp .eq (.call .lawTake [(.v 0),(.c (.int 5))]) (.c (.int 0))) (.bin .add (.bin .add (.bin .add (.c (.str [40])) (.call .lawGap [(.v 0)])) (.v 3)) (.c (.str [41]))) (.v 3))]⟩
 ⟨3,[],5,[
  .asg 3 (.bop true [(.cmp .eq (.idx (.v 2) (.c (.int 0))) (.c (.str [110,97,109,101]))),(.cmp .eq (.idx (.v 2) (.c (.int 2))) (.v 1)),(.cmp .is (.idx (.v 2) (.c (.int 5))) (.c .none))]),
  .asg 4 (.call .lawSortText [(.v 0),(.v 2)]),
  .if_ (.bop true [(.v 3),(.cmp .eq (.call .lawTake [(.v 0),(.c (.int 2))]) (.c (.int 0)))]) [.ret false (.bin .add (.bin .add (.ite (.idx (.v 2) (.c (.int 3))) (.c (.str [114,101,102,32])) (.c (.str []))) (.ite (.idx (.v 2) (.c (.int 4))) (.c (.str [109,117,116,32])) (.c (.str [])))) (.v 1))] [],
  .ret false (.bin .add (.bin .add (.v 1) (.c (.str [58]))) (.v 4))]⟩
 ⟨2,[],7,[
  .asg 2 (.idx (.v 1) (.c (.int 0))),
  .if_ (.cmp .eq (.v 2) (.c (.str [108,105,116]))) [.ret false (.mth .lower (.prim .str false [(.idx (.v 1) (.c (.int 2)))]) [])] [],
  .if_ (.cmp .eq (.v 2) (.c (.str [114,97,110,103,101]))) [.ret false (.bin .add (.bin .add (.prim .str false [(.idx (.v 1) (.c (.int 2)))]) (.c (.str [32,46,46,61,32]))) (.prim .str false [(.idx (.v 1) (.c (.int 3)))]))] [],
  .if_ (.cmp .eq (.v 2) (.c (.str [116,117,112,108,101]))) [.ret false (.call .lawRow [(.v 0),(.comp false (.call .lawSortText [(.v 0),(.v 4)]) [4] (.idx (.v 1) (.c (.int 2)))),(.c (.str [40])),(.c (.str [41])),(.c (.bool true))])] [],
  .if_ (.cmp .eq (.v 2) (.c (.str [118,97,114,105,97,110,116]))) [.ret false (.bin .add (.call .lawPathText [(.v 0),(.idx (.v 1) (.c (.int 2))),(.c (.bool false))]) (.call .lawRow [(.v 0),(.comp false (.call .lawSortText [(.v 0),(.v 4)]) [4] (.idx (.v 1) (.c (.int 3)))),(.c (.str [40])),(.c (.str [41])),(.c (.bool false))]))] [],
  .if_ (.cmp .eq (.v 2) (.c (.str [102,105,101,108,100,115]))) [.asg 3 (.comp false (.call .lawFieldText [(.v 0),(.v 5),(.v 4)]) [5,4] (.idx (.v 1) (.c (.int 3)))),.if_ (.idx (.v 1) (.c (.int 4))) [.ret false (.bin .add (.bin .add (.bin .add (.call .lawPathText [(.v 0),(.idx (.v 1) (.c (.int 2))),(.c (.bool false))]) (.c (.str [123]))) (.mth .join (.c (.str [])) [(.comp false (.bin .add (.v 6) (.c (.str [44,32]))) [6] (.v 3))])) (.c (.str [46,46,125])))] [],.ret false (.bin .add (.call .lawPathText [(.v 0),(.idx (.v 1) (.c (.int 2))),(.c (.bool false))]) (.call .lawRow [(.v 0),(.v 3),(.c (.str [123])),(.c (.str [125])),(.c (.bool false))]))] [],
  .ret false (.c (.str [95]))]⟩
 ⟨2,[],7,[
  .asg 2 (.idx (.v 1) (.c (.int 0))),
  .if_ (.cmp .eq (.v 2) (.c (.str [111,114]))) [.asg 3 (.call .lawOne [(.v 0),(.lst false [(.c (.str [])),(.c (.str [124]))])]),.ret false (.bin .add (.bin .add (.bin .add (.c (.str [40])) (.v 3)) (.mth .join (.c (.str [32,124,32])) [(.comp false (.call .lawSortText [(.v 0),(.v 6)]) [6] (.idx (.v 1) (.c (.int 2))))])) (.c (.str [41])))] [],
  .if_ (.cmp .eq (.v 2) (.c (.str [114,101,102]))) [.ret false (.bin .add (.bin .add (.bin .add (.bin .add (.c (.str [38])) (.ite (.idx (.v 1) (.c (.int 2))) (.c (.str [109,117,116,32])) (.c (.str [])))) (.c (.str [40]))) (.call .lawSortText [(.v 0),(.idx (.v 1) (.c (.int 3)))])) (.c (.str [41])))] [],
  .if_ (.cmp .eq (.v 2) (.c (.str [110,97,109,101]))) [.asg 4 (.ite (.cmp .is (.idx (.v 1) (.c (.int 5))) (.c .none)) (.c (.str [])) (.bin .add (.bin .add (.c (.str [32,64,32,40])) (.call .lawSortText [(.v 0),(.idx (.v 1) (.c (.int 5)))])) (.c (.str [41])))),.ret false (.bin .add (.bin .add (.bin .add (.bin .add (.bin .add (.c (.str [40])) (.ite (.idx (.v 1) (.c (.int 3))) (.c (.str [114,101,102,32])) (.c (.str [])))) (.ite (.idx (.v 1) (.c (.int 4))) (.c (.str [109,117,116,32])) (.c (.str [])))) (.idx (.v 1) (.c (.int 2)))) (.v 4)) (.c (.str [41])))] [],
  .asg 5 (.call .lawPlainSort [(.v 0),(.v 1)]),
  .ret false (.ite (.cmp .eq (.call .lawTake [(.v 0),(.c (.int 5))]) (.c (.int 0))) (.bin .add (.bin .add (.c (.str [40])) (.v 5)) (.c (.str [41]))) (.v 5))]⟩
 ⟨2,[],4,[
  .asg 2 (.call .readWords [(.v 1)]),
  .tryA 3 (.callV 0 [(.v 2)]) .none,
  .ret false (.ite (.cmp .eq (.idx (.wm .wPeek (.v 2) []) (.c (.int 0))) (.c (.str [101,110,100]))) (.call .plain [(.v 3)]) (.c .none))]⟩
 ⟨1,[],2,[
  .if_ (.bop true [(.prim .isiTuple false [(.v 0)]),(.cmp .gt (.prim .len false [(.v 0)]) (.c (.int 1))),(.prim .isiStr false [(.idx (.v 0) (.c (.int 0)))]),(.prim .isiInt false [(.idx (.v 0) (.c (.int 1)))])]) [.if_ (.bop true [(.cmp .isNot (.idx (.v 0) (.c (.int 1))) (.c (.bool true))),(.cmp .ne (.idx (.v 0) (.c (.int 1))) (.c (.int 0)))]) [.ret false (.c (.bool false))] []] [],
  .ret false (.bop false [(.not (.prim .isiTuple false [(.v 0)])),(.cmp .eq (.compIf (.v 1) [1] (.v 0) (.not (.call .lawIsBare [(.v 1)]))) (.lst false []))])]⟩
 ⟨1,[],8,[
  .asg 1 (.tup [(.c (.str [114,101,102])),(.c (.int 0)),(.c .none),(.c (.bool false)),(.tup [(.c (.str [112,97,116,104])),(.c (.int 0)),(.tup [(.tup [(.c (.str [84])),(.tup []),(.tup [])])])])]),
  .if_ (.cmp .ne (.call .lawBack [(.fn .readType),(.c (.str [38,38,84]))]) (.tup [(.c (.str [114,101,102])),(.c (.int 0)),(.c .none),(.c (.bool false)),(.v 1)])) [.ret false (.c (.bool false))] [],
  .for_ [2] (.prim .range false [(.prim .max false [(.c (.int 1)),(.prim .min false [(.prim .len false [(.v 0)]),(.c (.int 2))])])]) [.asg 3 (.call .lawPool [(.v 0),(.v 2)]),.asgP [4,5,6] [(.call .lawType [(.v 3),(.c (.int 3))]),(.call .lawParams [(.v 3)]),(.call .lawSort [(.v 3),(.c (.int 3))])],.if_ (.bop false [(.cmp .ne (.call .lawBack [(.fn .readType),(.call .writeType [(.v 4)])]) (.v 4)),(.cmp .ne (.call .lawBack [(.fn .readType),(.call .lawTypeText [(.v 3),(.v 4)])]) (.v 4))]) [.ret false (.c (.bool false))] [],.if_ (.cmp .ne (.call .lawBack [(.fn .readGenerics),(.call .writeGenerics [(.v 5)])]) (.v 5)) [.ret false (.c (.bool false))] [],.if_ (.cmp .ne (.call .lawBack [(.fn .readPattern),(.call .writePattern [(.v 6)])]) (.v 6)) [.ret false (.c (.bool false))] [],.if_ (.bop false [(.cmp .ne (.call .lawBack [(.fn .readPattern),(.call .lawSortText [(.v 3),(.v 6)])]) (.v 6)),(.not (.call .lawIsBare [(.v 6)]))]) [.ret false (.c (.bool false))] [],.if_ (.cmp .ne (.call .plain [(.tup [(.c (.str [114,101,102])),(.c (.int 9)),(.c .none),(.c (.bool true)),(.tup [(.c (.str [112,97,116,104])),(.c (.int 4)),(.tup [(.tup [(.c (.str [84])),(.tup []),(.tup [(.tup [(.c (.str [110,101,118,101,114])),(.c (.int 2))])])])])])])]) (.tup [(.c (.str [114,101,102])),(.c (.int 0)),(.c .none),(.c (.bool true)),(.tup [(.c (.str [112,97,116,104])),(.c (.int 0)),(.tup [(.tup [(.c (.str [84])),(.tup []),(.tup [(.tup [(.c (.str [110,101,118,101,114])),(.c (.int 0))])])])])])])) [.ret false (.c (.bool false))] [],.asg 7 (.lst false [(.c (.str [])),(.c (.str [38])),(.c (.str [91,84,93])),(.c (.str [91,84,59,32,120,93])),(.c (.str [91,84,59,32,49,117,56,93])),(.c (.str [65,60])),(.c (.str [65,60,66])),(.c (.str [40,65,44,32,66])),(.c (.str [65,58,58,115,101,108,102])),(.c (.str [38,39,97])),(.c (.str [65,60,84,44,32,39,97,62])),(.c (.str [65,58,58])),(.c (.str [102,110])),(.c (.str [49])),(.c (.str [65,32,62]))]),.if_ (.cmp .isNot (.call .lawBack [(.fn .readType),(.call .lawOne [(.v 3),(.v 7)])]) (.c .none)) [.ret false (.c (.bool false))] [],.asg 7 (.lst false [(.c (.str [])),(.c (.str [49,117,56])),(.c (.str [46,46])),(.c (.str [65,32,123,120])),(.c (.str [65,32,123,120,58,125])),(.c (.str [114,101,102])),(.c (.str [40,97])),(.c (.str [120,32,64])),(.c (.str [45,97])),(.c (.str [49,32,46,46,61])),(.c (.str [97,32,124])),(.c (.str [102,110])),(.c (.str [65,32,123,46,46,44,32,120,125])),(.c (.str [65,40])),(.c (.str [49,46,46,50])),(.c (.str [120,32,64,32,124,32,121]))]),.if_ (.cmp .isNot (.call .lawBack [(.fn .readPattern),(.call .lawOne [(.v 3),(.v 7)])]) (.c .none)) [.ret false (.c (.bool false))] [],.asg 7 (.lst false [(.c (.str [60])),(.c (.str [60,84])),(.c (.str [60,84,58,32,62])),(.c (.str [60,84,44,32,39,97,62])),(.c (.str [60,49,62])),(.c (.str [60,84,58,32,65,32,43,62])),(.c (.str [60,84,62,62])),(.c (.str [60,102,110,62]))]),.if_ (.cmp .isNot (.call .lawBack [(.fn .readGenerics),(.call .lawOne [(.v 3),(.v 7)])]) (.c .none)) [.ret false (.c (.bool false))] []],
  .ret false (.c (.bool true))]⟩
end Mine
namespace Mine
noncomputable def Ok {α : Type} (r : R α) (Q : α→Store→Prop) : Prop:=@R.casesOn α (fun _=>Prop) r False Q
noncomputable def Bt (b : Bool) (P : Prop) : Prop:=@Bool.casesOn (fun _=>Prop) b False P
noncomputable def Br (b : Bool) (P P' : Prop) : Prop:=@Bool.casesOn (fun _=>Prop) b P' P
noncomputable def Op {α : Type} (o : Option α) (K : α→Prop) : Prop:=@Option.casesOn α (fun _=>Prop) o False K
noncomputable def Vd (v : V) (K : D→Prop) : Prop:=@V.casesOn (fun _=>Prop) v K (fun _=>False) (fun _=>False) (fun _=>False) (fun _=>False) fun _=>False
noncomputable def Vl (v : V) (K : Nat→Prop) : Prop:=@V.casesOn (fun _=>Prop) v (fun _=>False) K (fun _=>False) (fun _=>False) (fun _=>False) fun _=>False
noncomputable def Vf (v : V) (K : Fn→Prop) : Prop:=@V.casesOn (fun _=>Prop) v (fun _=>False) (fun _=>False) (fun _=>False) K (fun _=>False) fun _=>False
noncomputable def Di (d : D) (K : Int→Prop) : Prop:=@D.casesOn (fun _=>Prop) d False (fun _=>False) K (fun _=>False) (fun _=>False) fun _=>False
noncomputable def Ds (d : D) (K : List Nat→Prop) : Prop:=@D.casesOn (fun _=>Prop) d False (fun _=>False) (fun _=>False) K (fun _=>False) fun _=>False
noncomputable def Dt (d : D) (K : List D→Prop) : Prop:=@D.casesOn (fun _=>Prop) d False (fun _=>False) (fun _=>False) (fun _=>False) K fun _=>False
noncomputable def Dl (d : D) (K : List D→Prop) : Prop:=@D.casesOn (fun _=>Prop) d False (fun _=>False) (fun _=>False) (fun _=>False) (fun _=>False) K
noncomputable def Ls (σ : Store) (j : Nat) (K : List D→Prop) : Prop:=Op σ[j]? fun e=>@Ent.casesOn (fun _=>Prop) e K fun _ _=>False
noncomputable def Vw (v : V) (K : Nat→Prop) : Prop:=@V.casesOn (fun _=>Prop) v (fun _=>False) (fun _=>False) K (fun _=>False) (fun _=>False) fun _=>False
noncomputable def Wd (σ : Store) (j : Nat) (K : Nat→Int→Prop) : Prop:=Op σ[j]? fun e=>@Ent.casesOn (fun _=>Prop) e (fun _=>False) K
@[irreducible] noncomputable def slT (σ : Store) (x : V) (i j : Int) : R V:=slV false σ x i (some j)
noncomputable abbrev Kv:=V→Store→Prop
noncomputable abbrev Kb:=Bool→Store→Prop
noncomputable abbrev Kn:=Loc→Store→Prop
noncomputable abbrev Kr:=Bool→V→Store→Prop
noncomputable abbrev Ke:=Store→Prop
noncomputable def No : Ke:=fun _=>False
structure Wx where
 v : Loc→Store→Ke→Kv→Prop
 t : Loc→Store→Ke→Kb→Prop
noncomputable def Wx.of (f : Loc→Store→Ke→Kv→Prop) : Wx:=⟨f,fun Γ σ E K=>f Γ σ E fun v σ=>Op (truthV v) fun b=>K b σ⟩
noncomputable def wRow : List Wx→Loc→Store→Ke→(List V→Store→Prop)→Prop
 | [],_,σ,_,K=>K [] σ
 | e :: es,Γ,σ,E,K=>e.v Γ σ E fun v σ=>wRow es Γ σ E fun vs σ=>K (v :: vs) σ
noncomputable def allK : List V→(List D→Prop)→Prop
 | [],K=>K []
 | v :: vs,K=>Vd v fun d=>allK vs fun ds=>K (d :: ds)
noncomputable def wRowB (o : Bool) : List Wx→Loc→Store→Ke→Kv→Prop
 | [],_,_,_,_=>False
 | e :: es,Γ,σ,E,K=>match es with
  | []=>e.v Γ σ E K
  | _ :: _=>e.v Γ σ E fun v σ=>Op (truthV v) fun b=>Br (b == o) (wRowB o es Γ σ E K) (K v σ)
noncomputable def wRowT (o : Bool) : List Wx→Loc→Store→Ke→Kb→Prop
 | [],_,σ,_,K=>K o σ
 | e :: es,Γ,σ,E,K=>e.t Γ σ E fun b σ=>Br (b == o) (wRowT o es Γ σ E K) (K (!o) σ)
noncomputable def wComp (f : Loc→Store→Ke→Kv→Prop) (g : Loc→Store→Ke→Kb→Prop) (Γ : Loc) (ts : List Nat) : List D→List D→Store→(List D→Store→Prop)→Prop
 | [],acc,σ,K=>Bt (fitD acc) (K acc σ)
 | x :: r,acc,σ,K=>Op (bindT Γ ts x) fun Γ'=>g Γ' σ No fun b σ=>Br b (f Γ' σ No fun v σ=>Vd v fun y=>wComp f g Γ ts r (acc ++ [y]) σ K) (wComp f g Γ ts r acc σ K)
noncomputable def Nl (τ : Store) (P : Prop) : Prop:=@List.casesOn Ent (fun _=>Prop) τ P fun _ _=>False
noncomputable def wCompRun (B : Prop→Prop) (mu : Bool) (f : Loc→Store→Ke→Kv→Prop) (g : Loc→Store→Ke→Kb→Prop) (Γ : Loc) (ts : List Nat) (it : V) (σ : Store) (K : Kv) : Prop:=
 match it with
 | .l i=>Ls σ i fun xs=>B (wComp f g (mask (clr ts Γ)) ts xs [] [] fun ys τ=>Nl τ (Ok (mkLst mu ys σ) K))
 | it=>Op (itemsV σ it) fun xs=>B (wComp f g (clr ts Γ) ts xs [] σ fun ys σ=>Ok (mkLst mu ys σ) K)
noncomputable def Lk (Γ : Loc) (i : Nat) (K : V→Prop) : Prop:=Op Γ[i]? fun o=>Op o K
noncomputable def wOnL (Γ : Loc) (i : Nat) (σ : Store) (K : Nat→Prop) : Prop:=Lk Γ i fun v=>Vl v fun j=>Ls σ j fun _=>K j
section
variable (B : Prop→Prop) (C : Fn→List V→Store→Ke→Kv→Prop)
mutual
noncomputable def wX : X→Wx
 | .c d=>.of fun _ σ _ K=>K (.d d) σ
 | .v i=>.of fun Γ σ _ K=>Lk Γ i fun v=>K v σ
 | .g x=>.of fun _ σ _ K=>K (.d (gval x)) σ
 | .fn f=>.of fun _ σ _ K=>K (.fn f) σ
 | .tup es=>.of fun Γ σ E K=>wRow (wL es) Γ σ E fun vs σ=>allK vs fun ds=>Bt (fitD ds) (K (.d (.tup ds)) σ)
 | .lst mu es=>.of fun Γ σ E K=>wRow (wL es) Γ σ E fun vs σ=>allK vs fun ds=>Ok (mkLst mu ds σ) K
 | .neg e=>.of fun Γ σ E K=>(wX e).v Γ σ E fun v σ=>Vd v fun d=>Di d fun i=>K (.d (.int (-i))) σ
 | .not e=>⟨fun Γ σ E K=>(wX e).v Γ σ E fun v σ=>Op (truthV v) fun b=>K (.d (.bool (!b))) σ,fun Γ σ E K=>(wX e).t Γ σ E fun b σ=>K (!b) σ⟩
 | .bin o a b=>.of fun Γ σ E K=>(wX a).v Γ σ E fun x σ=>(wX b).v Γ σ E fun y σ=>Ok (binV σ o x y) K
 | .bop isAnd es=>⟨fun Γ σ E K=>wRowB isAnd (wL es) Γ σ E K,fun Γ σ E K=>wRowT isAnd (wL es) Γ σ E K⟩
 | .ite t a b=>⟨fun Γ σ E K=>(wX t).t Γ σ E fun c σ=>Br c ((wX a).v Γ σ E K) ((wX b).v Γ σ E K),fun Γ σ E K=>(wX t).t Γ σ E fun c σ=>Br c ((wX a).t Γ σ E K) ((wX b).t Γ σ E K)⟩
 | .cmp o a b=>⟨fun Γ σ E K=>(wX a).v Γ σ E fun x σ=>(wX b).v Γ σ E fun y σ=>Op (cmpV σ o x y) fun r=>K (.d (.bool r)) σ,fun Γ σ E K=>(wX a).v Γ σ E fun x σ=>(wX b).v Γ σ E fun y σ=>Op (cmpV σ o x y) fun r=>K r σ⟩
 | .idx a b=>.of fun Γ σ E K=>(wX a).v Γ σ E fun x σ=>(wX b).v Γ σ E fun y σ=>Ok (idxV σ x y) K
 | .slLo a lo=>.of fun Γ σ E K=>(wX a).v Γ σ E fun x σ=>(wX lo).v Γ σ E fun y σ=>Vd y fun d=>Di d fun i=>Ok (slV false σ x i none) K
 | .slHi mu a hi=>.of fun Γ σ E K=>(wX a).v Γ σ E fun x σ=>(wX hi).v Γ σ E fun y σ=>Vd y fun d=>Di d fun i=>Ok (slV mu σ x 0 (some i)) K
 | .slLH a lo hi=>.of fun Γ σ E K=>(wX a).v Γ σ E fun x σ=>(wX lo).v Γ σ E fun y σ=>(wX hi).v Γ σ E fun z σ=>Vd y fun d=>Di d fun i=>Vd z fun d=>Di d fun j=>Ok (slT σ x i j) K
 | .rev a=>.of fun Γ σ E K=>(wX a).v Γ σ E fun x σ=>Vd x fun d=>Dt d fun xs=>K (.d (.tup xs.reverse)) σ
 | .call f es=>.of fun Γ σ E K=>wRow (wL es) Γ σ E fun vs σ=>C f vs σ E K
 | .callV i es=>.of fun Γ σ E K=>Lk Γ i fun v=>Vf v fun f=>wRow (wL es) Γ σ E fun vs σ=>C f vs σ E K
 | .prim p mu es=>.of fun Γ σ E K=>wRow (wL es) Γ σ E fun vs σ=>Ok (primV p mu σ vs) K
 | .mth m o es=>.of fun Γ σ E K=>(wX o).v Γ σ E fun x σ=>Vd x fun d=>Ds d fun l=>wRow (wL es) Γ σ E fun vs σ=>Ok (mthV m σ (.d (.str l)) vs) K
 | .wm f o es=>.of fun Γ σ E K=>(wX o).v Γ σ E fun x σ=>Vw x fun j=>Wd σ j fun _ _=>wRow (wL es) Γ σ E fun us σ=>C f (.w j :: us) σ E K
 | .rows o=>.of fun Γ σ E K=>(wX o).v Γ σ E fun x σ=>Vw x fun j=>Wd σ j fun r _=>K (.l r) σ
 | .wat o=>.of fun Γ σ E K=>(wX o).v Γ σ E fun x σ=>Vw x fun j=>Wd σ j fun _ a=>K (.d (.int a)) σ
 | .mkW e=>.of fun Γ σ E K=>(wX e).v Γ σ E fun x σ=>Op (resD σ x) fun d=>Dl d fun xs=>K (.w (σ.length + 1)) (σ ++ [.lst xs,.wd σ.length 0])
 | .pop i=>.of fun Γ σ E K=>wOnL Γ i σ fun j=>Ls σ j fun xs=>Op xs.getLast? fun x=>K (.d x) (σ.set j (.lst xs.dropLast))
 | .comp mu elt ts it=>.of fun Γ σ E K=>(wX it).v Γ σ No fun x σ=>wCompRun B mu (wX elt).v (fun _ σ _ K=>K true σ) Γ ts x σ K
 | .compIf elt ts it t=>.of fun Γ σ E K=>(wX it).v Γ σ No fun x σ=>wCompRun B false (wX elt).v (wX t).t Γ ts x σ K
 | .dct kvs=>.of fun _ σ _ K=>K (.dct kvs) σ
 | .bad=>.of fun _ _ _ _=>False
noncomputable def wL : List X→List Wx
 | []=>[]
 | e :: es=>wX e :: wL es
end
structure J where
 B : Kn
 Z : Kr
 E : Ke
noncomputable def wFor (f : Kn→J→Loc→Store→Prop) (ts : List Nat) (N : Kn) (Z : Kr) : List D→Loc→Store→Prop
 | [],Γ,σ=>N Γ σ
 | x :: r,Γ,σ=>Op (bindT Γ ts x) fun Γ'=>f (wFor f ts N Z r) ⟨N,Z,No⟩ Γ' σ
noncomputable def wWhile (t : Loc→Store→Ke→Kb→Prop) (f : Kn→J→Loc→Store→Prop) (N : Kn) (j : J) : Nat→Loc→Store→Prop
 | 0,_,_=>False
 | W + 1,Γ,σ=>t Γ σ j.E fun b σ=>Br b (f (wWhile t f N j W) ⟨N,j.Z,j.E⟩ Γ σ) (N Γ σ)
noncomputable def WW : Nat:=10000000
mutual
noncomputable def wS : S→Kn→J→Loc→Store→Prop
 | .ex e,N,j,Γ,σ=>(wX B C e).v Γ σ j.E fun _ σ=>N Γ σ
 | .app i e,N,j,Γ,σ=>wOnL Γ i σ fun a=>(wX B C e).v Γ σ j.E fun v σ=>Vd v fun x=>Ls σ a fun xs=>Bt (fitD (xs ++ [x])) (N Γ (σ.set a (.lst (xs ++ [x]))))
 | .ext i e,N,j,Γ,σ=>wOnL Γ i σ fun a=>(wX B C e).v Γ σ j.E fun v σ=>Vd v fun d=>Dl d fun ys=>Ls σ a fun xs=>Bt (fitD (xs ++ ys)) (N Γ (σ.set a (.lst (xs ++ ys))))
 | .asg i e,N,j,Γ,σ=>(wX B C e).v Γ σ j.E fun v σ=>N (setL Γ i v) σ
 | .asgT is e,N,j,Γ,σ=>(wX B C e).v Γ σ j.E fun v σ=>Vd v fun d=>Dt d fun ds=>Op (setLs Γ is (ds.map .d)) fun Γ=>N Γ σ
 | .asgP is es,N,j,Γ,σ=>wRow (wL B C es) Γ σ j.E fun vs σ=>Op (setLs Γ is vs) fun Γ=>N Γ σ
 | .aug i e,N,j,Γ,σ=>Lk Γ i fun v=>Vd v fun d=>Di d fun a=>(wX B C e).v Γ σ j.E fun v σ=>Vd v fun d=>Di d fun b=>N (setL Γ i (.d (.int (a + b)))) σ
 | .augA o b,N,j,Γ,σ=>(wX B C o).v Γ σ j.E fun x σ=>Vw x fun i=>Wd σ i fun r a=>N Γ (σ.set i (.wd r (a + b)))
 | .setI o i e,N,j,Γ,σ=>(wX B C e).v Γ σ j.E fun v σ=>(wX B C o).v Γ σ j.E fun x σ=>(wX B C i).v Γ σ j.E fun k σ=>Vd v fun y=>Vl x fun a=>Vd k fun d=>Di d fun n=>Ls σ a fun xs=>Bt (decide (0≤n) && decide (n < xs.length)) (N Γ (σ.set a (.lst (xs.set n.toNat y))))
 | .if_ t a b,N,j,Γ,σ=>(wX B C t).t Γ σ j.E fun c σ=>Br c (wSs a N j Γ σ) (wSs b N j Γ σ)
 | .while_ t b,N,j,Γ,σ=>B (wWhile (wX B C t).t (wSs b) N j WW Γ σ)
 | .for_ ts it b,N,j,Γ,σ=>(wX B C it).v Γ σ j.E fun x σ=>Op (itemsV σ x) fun xs=>B (wFor (wSs b) ts N j.Z xs Γ σ)
 | .ret k e,N,j,Γ,σ=>(wX B C e).v Γ σ j.E fun v σ=>j.Z k v σ
 | .brk,N,j,Γ,σ=>j.B Γ σ
 | .raise a b,N,j,Γ,σ=>(wX B C a).v Γ σ j.E fun x σ=>(wX B C b).v Γ σ j.E fun y σ=>Vd x fun _=>Vd y fun _=>j.E σ
 | .tryA i e d,N,j,Γ,σ=>(wX B C e).v Γ σ (fun σ=>j.Z false (.d d) σ) fun v σ=>N (setL Γ i v) σ
 | .bad,_,_,_,_=>False
noncomputable def wSs : List S→Kn→J→Loc→Store→Prop
 | [],N,_,Γ,σ=>N Γ σ
 | s :: r,N,j,Γ,σ=>wS s (wSs r N j) j Γ σ
end
end
@[irreducible] noncomputable def Zd (n : Nat) (Q : Kv) : Kr:=fun k v σ=>Br k
 (@V.casesOn (fun _=>Prop) v (fun _=>False) (fun _=>Q v σ) (fun _=>Q v σ) (fun _=>False) (fun _=>False) fun _=>False)
 (@V.casesOn (fun _=>Prop) v (fun x=>Q (.d x) (σ.take n)) (fun i=>Br (decide (i < n)) (Q (.l i) (σ.take n)) (Ls σ i fun xs=>Q (.d (.lst xs)) (σ.take n))) (fun _=>False) (fun _=>False) (fun _=>False) fun _=>False)
noncomputable def Nd (n : Nat) (Q : Kv) : Kn:=fun _ σ=>Q (.d .none) (σ.take n)
noncomputable def Jd (n : Nat) (E : Ke) (Q : Kv) : J:=⟨fun _ _=>False,Zd n Q,fun σ=>E (σ.take n)⟩
noncomputable def ClF (B : Prop→Prop) (C : Fn→List V→Store→Ke→Kv→Prop) (f : Fn) (vs : List V) (σ : Store) (E : Ke) (Q : Kv) : Prop:=Op (bindV (F f) vs) fun Γ=>wSs B C (F f).body (Nd σ.length Q) (Jd σ.length E Q) Γ σ
@[irreducible] noncomputable def ClE (n : Nat) : Fn→List V→Store→Ke→Kv→Prop:=@Nat.rec (fun _=>Fn→List V→Store→Ke→Kv→Prop) (fun _ _ _ _ _=>False) (fun _ C=>ClF id C) n
structure Bx (P : Prop) : Prop where
 h : P
inductive Call (C D : Fn→List V→Store→Ke→Kv→Prop) (f : Fn) (vs : List V) (σ : Store) (E : Ke) (Q : Kv) : Prop
 | w : C f vs σ E Q→Call C D f vs σ E Q
 | e : D f vs σ E Q→Call C D f vs σ E Q
@[irreducible] noncomputable def ClR (n : Nat) : Fn→List V→Store→Ke→Kv→Prop:=@Nat.rec (fun _=>Fn→List V→Store→Ke→Kv→Prop) (fun _ _ _ _ _=>False) (fun n C=>ClF Bx (Call C (ClE n))) n
noncomputable def Cl (n : Nat) : Fn→List V→Store→Ke→Kv→Prop:=Call (ClR n) (ClE n)
theorem ClE_succ {n : Nat} : ClE (n + 1)=ClF id (ClE n):=by with_unfolding_all rfl
theorem ClR_succ {n : Nat} : ClR (n + 1)=ClF Bx (Cl n):=by with_unfolding_all rfl
theorem def_s {n : Nat} {f : Fn} {vs : List V} {σ : Store} {E : Ke} {Q : Kv} {Γ : Loc} (hb : bindV (F f) vs=some Γ) (h : wSs Bx (Cl n) (F f).body (Nd σ.length Q) (Jd σ.length E Q) Γ σ) : Cl (n + 1) f vs σ E Q:=by
 refine .w ?_
 rw [ClR_succ]; unfold ClF; rw [hb]; exact h
end Mine
namespace Mine
section
variable {α : Type} {n k m : Nat} {f : Fn} {vs : List V} {Γ : Loc} {σ τ : Store} {E : Ke} {Q : Kv} {b : Bool} {P P' : Prop} {x : D} {xs ys : List D} {i j r : Nat} {a z : Int} {l : List Nat}
theorem def_k (hn : k + 1≤n) (hb : bindV (F f) vs=some Γ) (h : ∀ m,k≤m→wSs Bx (Cl m) (F f).body (Nd σ.length Q) (Jd σ.length E Q) Γ σ) : Cl n f vs σ E Q:=by
 cases n with
 | zero=>exact absurd hn (Nat.not_succ_le_zero k)
 | succ m=>exact def_s hb (h m (sl hn))
theorem def_F {fd : FD} (hF : F f=fd) (hn : k + 1≤n) (hb : bindV fd vs=some Γ) (h : ∀ m,k≤m→wSs Bx (Cl m) fd.body (Nd σ.length Q) (Jd σ.length E Q) Γ σ) : Cl n f vs σ E Q:=def_k hn (hF ▸ hb) (hF ▸ h)
theorem while_go {W : Nat} {wt : Loc→Store→Ke→Kb→Prop} {wb : Kn→J→Loc→Store→Prop} {N : Kn} {J : J} (hW : k + 1≤W) (h : ∀ V,k≤V→wt Γ σ J.E fun b σ=>Br b (wb (wWhile wt wb N J V) ⟨N,J.Z,J.E⟩ Γ σ) (N Γ σ)) : Bx (wWhile wt wb N J W Γ σ):=by
 cases W with
 | zero=>exact absurd hW (Nat.not_succ_le_zero k)
 | succ W=>exact ⟨h W (sl hW)⟩
theorem ok_of {r : R α} {a : α} {Q : α→Store→Prop} (e : r=.ok a σ) (q : Q a σ) : Ok r Q:=e ▸ q
theorem br_t (h : b=true) (p : P) : Br b P P':=h ▸ p
theorem br_f (h : b=false) (p : P') : Br b P P':=h ▸ p
theorem br_e {c : Bool} (h : b=c) (p : Br c P P') : Br b P P':=h ▸ p
theorem cmp_ne_nil {K : Bool→Prop} (h : σ[j]?=some (.lst xs)) (k : K (!xs.isEmpty)) : Op (cmpV σ .ne (.l j) (.d (.lst []))) K:=by
 show Op (oR σ (.l j) fun x=>oR σ (.d (.lst [])) fun y=>if eqOk x y then some (!D.eq x y) else none) K
 unfold oR; rw [resD.eq_def]; dsimp only; rw [h]
 show Op (if eqOk (.lst xs) (.lst []) then some (!D.eq (.lst xs) (.lst [])) else none) K
 rw [if_pos (show eqOk (.lst xs) (.lst [])=true from decide_eq_true (Nat.le_trans (Nat.min_le_right _ _) (by decide)))]
 cases xs <;> exact k
theorem br_and {c d : Bool} {X : Prop} (h : (c && d)=false) (p : P') : Br (c == true) (Br (d == true) X P') P':=by
 cases c with
 | false=>exact p
 | true=>cases d with
  | false=>exact p
  | true=>cases h
theorem b1t (h : b=true) (p : P) : Br (b == true) P P':=by rw [h]; exact p
theorem b1f (h : b=false) (p : P') : Br (b == true) P P':=by rw [h]; exact p
theorem b0t (h : b=true) (p : P') : Br (b == false) P P':=by rw [h]; exact p
theorem b0f (h : b=false) (p : P) : Br (b == false) P P':=by rw [h]; exact p
theorem bt (h : b=true) (p : P) : Bt b P:=h ▸ p
theorem op {o : Option α} {a : α} {K : α→Prop} (h : o=some a) (k : K a) : Op o K:=h ▸ k
theorem ls {K : List D→Prop} (h : σ[j]?=some (.lst xs)) (k : K xs) : Ls σ j K:=by unfold Ls; rw [h]; exact k
theorem ww {K : Nat→Int→Prop} (h : σ[j]?=some (.wd r a)) (k : K r a) : Wd σ j K:=by unfold Wd; rw [h]; exact k
theorem take_full (h : τ.length=σ.length) : τ.take σ.length=τ:=by rw [← h]; exact List.take_length
theorem zd (h : τ.length=σ.length) (q : Q (.d x) τ) : Zd σ.length Q false (.d x) τ:=by
 unfold Zd
 show Q (.d x) (τ.take σ.length)
 rw [take_full h]; exact q
theorem zc (q : Q (.d x) (τ.take k)) : Zd k Q false (.d x) τ:=by unfold Zd; exact q
theorem zl (h : ¬ i < k) (hl : τ[i]?=some (.lst xs)) (q : Q (.d (.lst xs)) (τ.take k)) : Zd k Q false (.l i) τ:=by
 unfold Zd
 show Br (decide (i < k)) _ _
 rw [decide_eq_false h]; exact ls hl q
theorem zw (q : Q (.w i) τ) : Zd k Q true (.w i) τ:=by unfold Zd; exact q
theorem zk (q : Q (.l i) τ) : Zd k Q true (.l i) τ:=by unfold Zd; exact q
theorem with_l {f : D→R V} (h : σ[j]?=some (.lst xs)) (q : Ok (f (.lst xs)) Q) : Ok (withD σ (.l j) f) Q:=by
 unfold withD; rw [resD.eq_def]; dsimp only; rw [h]; exact q
theorem len_l {mu : Bool} (h : σ[j]?=some (.lst xs)) (q : Q (.d (.int xs.length)) σ) : Ok (primV .len mu σ [.l j]) Q:=with_l (f:=fun d=>lenD d σ) h q
theorem pyIdx_nat {n i : Nat} (h : i < n) : pyIdx n i=some i:=by
 unfold pyIdx; rw [if_pos (Int.natCast_nonneg i),if_pos (Int.ofNat_lt.mpr h)]; rfl
theorem pyIdx_z (e : z=(i : Int)) (h : xs[i]?=some x) : (pyIdx xs.length z).bind (xs[·]?)=some x:=by
 rw [e,pyIdx_nat (List.getElem?_eq_some_iff.mp h).1]; exact h
theorem idx_l (h : σ[j]?=some (.lst xs)) (e : z=(i : Int)) (hx : xs[i]?=some x) (q : Q (.d x) σ) : Ok (idxV σ (.l j) (.d (.int z))) Q:=by
 unfold idxV; dsimp only; rw [resD.eq_def]; dsimp only; rw [h]
 unfold idxD; dsimp only; rw [pyIdx_z e hx]; exact q
theorem idx_t (e : z=(i : Int)) (hx : xs[i]?=some x) (q : Q (.d x) σ) : Ok (idxV σ (.d (.tup xs)) (.d (.int z))) Q:=by
 show Ok (match (pyIdx xs.length z).bind (xs[·]?) with | some x=>.ok (.d x) σ | none=>.no) Q
 rw [pyIdx_z e hx]; exact q
theorem fit_small (h : xs.length≤1000) : fitD xs=true:=decide_eq_true (dr h rfl)
theorem app_l {K : List D→Prop} (h : σ[j]?=some (.lst xs)) (hf : fitD (xs ++ [x])=true) (p : P) (hk : P=K xs) : Ls σ j fun xs=>Bt (fitD (xs ++ [x])) (K xs):=ls h (bt hf (hk ▸ p))
theorem lw {n : Nat} (h : n≤1000) : n < WW:=Nat.lt_of_le_of_lt h (Nat.lt_of_sub_ne_zero nofun)
theorem a1 {a b : Bool} (h : (a && b)=true) : a=true:=(Bool.and_eq_true_iff.mp h).1
theorem a2 {a b : Bool} (h : (a && b)=true) : b=true:=(Bool.and_eq_true_iff.mp h).2
theorem nt {a : Bool} (h : (!a)=true) : a=false:=(Bool.not_eq_true' a).mp h
end
end Mine
namespace Mine
open PySem PySem.W PySem.Calls PyProof.Rows
theorem D.ind {P : D→Prop} (hn : P .none) (hb : ∀ b,P (.bool b)) (hi : ∀ i,P (.int i)) (hs : ∀ l,P (.str l)) (ht : ∀ xs,(∀ x∈xs,P x)→P (.tup xs)) (hl : ∀ xs,(∀ x∈xs,P x)→P (.lst xs)) (d : D) : P d:=
 @D.rec P (fun xs=>∀ x∈xs,P x) hn hb hi hs ht hl (fun x h=>nomatch h) (fun y ys h1 h2 x h=>(List.mem_cons.mp h).elim (fun e=>e ▸ h1) (h2 x)) d
noncomputable abbrev Imm:=Addr→Option Obj
noncomputable def Imm.le (I J : Imm) : Prop:=∀ b o,I b=some o→J b=some o
theorem Imm.le.refl (I : Imm) : Imm.le I I:=fun _ _ e=>e
theorem Imm.le.trans {I J L : Imm} (a : Imm.le I J) (b : Imm.le J L) : Imm.le I L:=fun x o e=>b x o (a x o e)
noncomputable def Imm.add (I : Imm) (a : Addr) (o : Obj) : Imm:=fun b=>if b=a then some o else I b
theorem Imm.le.add {I : Imm} {a : Addr} {o : Obj} (h : I a=none) : Imm.le I (I.add a o):=fun b o' e=>by
 unfold Imm.add
 exact if q : b=a then by rw [q,h] at e; cases e else (if_neg q).trans e
noncomputable def isRow (o : Obj) : Prop:=∃ vs n,o.data=.seq vs n
noncomputable def Sq (I : Imm) (c : String) (v : Value) (R : List Value→Prop) : Prop:=∃ a o vs n,v=.ref a∧I a=some o∧o.cls=.type c∧o.data=.seq (List.toArray vs) n∧R vs
mutual
noncomputable def RepD (I : Imm) : Value→D→Prop
 | v,.none=>v=.none
 | v,.bool b=>v=.bool b
 | v,.int i=>∃ t,v=.int i t
 | v,.str l=>∃ t,v=.str ⟨l.toArray⟩ t∧(∀ c∈l,c < 128)∧l.length≤LIM
 | v,.tup ds=>Sq I "tuple" v fun vs=>RepDs I vs ds∧ds.length≤LIM
 | v,.lst ds=>Sq I "list" v fun vs=>RepDs I vs ds∧ds.length≤LIM
noncomputable def RepDs (I : Imm) : List Value→List D→Prop
 | vs,[]=>vs=[]
 | vs,d :: ds=>∃ v us,vs=v :: us∧RepD I v d∧RepDs I us ds
end
section
variable {I J : Imm} {v : Value} {d x : D} {vs ws : List Value} {ds es : List D} {a : Addr} {o : Obj} {n : Nat} {l : List Nat}
theorem RepD.none : RepD I .none .none:=rfl
theorem RepD.bool (b : Bool) : RepD I (.bool b) (.bool b):=rfl
theorem RepD.int (i : Int) (t : Tok) : RepD I (.int i t) (.int i):=⟨t,rfl⟩
theorem RepD.str (l : List Nat) (t : Tok) (h : ∀ c∈l,c < 128) (k : l.length≤LIM) : RepD I (.str ⟨l.toArray⟩ t) (.str l):=⟨t,rfl,h,k⟩
theorem RepD.tup (h : I a=some o) (c : o.cls=.type "tuple") (e : o.data=.seq vs.toArray n) (r : RepDs I vs ds) (l : ds.length≤LIM) : RepD I (.ref a) (.tup ds):=⟨a,o,vs,n,rfl,h,c,e,r,l⟩
theorem RepD.lst (h : I a=some o) (c : o.cls=.type "list") (e : o.data=.seq vs.toArray n) (r : RepDs I vs ds) (l : ds.length≤LIM) : RepD I (.ref a) (.lst ds):=⟨a,o,vs,n,rfl,h,c,e,r,l⟩
theorem RepDs.cons (h : RepD I v d) (r : RepDs I vs ds) : RepDs I (v :: vs) (d :: ds):=⟨v,vs,rfl,h,r⟩
theorem RepDs.nil : RepDs I [] []:=rfl
theorem RepD.int_el {T : Value→Prop} {i : Int} (h : RepD I v (.int i)) (k : ∀ t,T (.int i t)) : T v:=h.elim fun t e=>e ▸ k t
theorem RepD.str_el {T : Value→Prop} (h : RepD I v (.str l)) (k : ∀ t,(∀ c∈l,c < 128)→l.length≤LIM→T (.str ⟨l.toArray⟩ t)) : T v:=h.elim fun t e=>e.1 ▸ k t e.2.1 e.2.2
theorem Sq.el {c : String} {T : Value→Prop} {R : List Value→Prop} (h : Sq I c v R) (k : ∀ a o vs n,I a=some o→o.cls=.type c→o.data=.seq (List.toArray vs) n→R vs→T (.ref a)) : T v:=
 h.elim fun a h=>h.elim fun o h=>h.elim fun vs h=>h.elim fun n h=>h.1 ▸ k a o vs n h.2.1 h.2.2.1 h.2.2.2.1 h.2.2.2.2
theorem RepDs.el {T : Prop} (h : RepDs I vs (d :: ds)) (k : ∀ v us,vs=v :: us→RepD I v d→RepDs I us ds→T) : T:=h.elim fun v h=>h.elim fun us h=>k v us h.1 h.2.1 h.2.2
theorem Sq.gen {c : String} {R S : List Value→Prop} (k : ∀ b o,I b=some o→isRow o→J b=some o) (hR : ∀ vs,R vs→S vs) (h : Sq I c v R) : Sq J c v S:=
 h.el (T:=fun v=>Sq J c v S) fun a o vs n e1 e2 e3 r=>⟨a,o,vs,n,rfl,k a o e1 ⟨_,_,e3⟩,e2,e3,hR vs r⟩
theorem RepDs.gen0 (h : ∀ x∈ds,∀ v,RepD I v x→RepD J v x) (r : RepDs I vs ds) : RepDs J vs ds:=by
 induction ds generalizing vs with
 | nil=>exact r
 | cons d ds ih=>exact r.el fun v us e r rs=>⟨v,us,e,h _ (.head _) v r,ih (fun x hx=>h x (.tail _ hx)) rs⟩
theorem RepD.gen (k : ∀ b o,I b=some o→isRow o→J b=some o) : ∀ d v,RepD I v d→RepD J v d:=
 D.ind (P:=fun d=>∀ v,RepD I v d→RepD J v d) (fun _ h=>h) (fun _ _ h=>h) (fun _ _ h=>h) (fun _ _ h=>h) (fun xs ih v h=>Sq.gen k (fun vs h=>⟨h.1.gen0 ih,h.2⟩) h) fun xs ih v h=>Sq.gen k (fun vs h=>⟨h.1.gen0 ih,h.2⟩) h
theorem RepD.mono (k : Imm.le I J) (h : RepD I v d) : RepD J v d:=RepD.gen (fun b o e _=>k b o e) d v h
theorem RepDs.mono (k : Imm.le I J) (h : RepDs I vs ds) : RepDs J vs ds:=h.gen0 fun x _ v=>RepD.gen (fun b o e _=>k b o e) x v
theorem RepDs.length (h : RepDs I vs ds) : vs.length=ds.length:=by
 induction ds generalizing vs with
 | nil=>exact congrArg List.length h
 | cons d ds ih=>exact h.el fun v us e _ r=>e ▸ congrArg (· + 1) (ih r)
theorem RepDs.append (h : RepDs I vs ds) (k : RepDs I ws es) : RepDs I (vs ++ ws) (ds ++ es):=by
 induction ds generalizing vs with
 | nil=>exact (show vs=[] from h) ▸ k
 | cons d ds ih=>exact h.el fun v us e r rs=>e ▸ .cons r (ih rs)
theorem RepDs.get (h : RepDs I vs ds) {k : Nat} (hk : ds[k]?=some x) : ∃ v,vs[k]?=some v∧RepD I v x:=by
 induction ds generalizing vs k with
 | nil=>cases hk
 | cons d ds ih=>
  exact h.el fun v us e r rs=>by
   subst e
   induction k with
   | zero=>exact ⟨v,rfl,Option.some.inj hk ▸ r⟩
   | succ k=>exact ih rs hk
theorem RepDs.take (h : RepDs I vs ds) (k : Nat) : RepDs I (vs.take k) (ds.take k):=by
 induction ds generalizing vs k with
 | nil=>rw [show vs=[] from h,List.take_nil,List.take_nil]; exact rfl
 | cons d ds ih=>
  exact h.el fun v us e r rs=>by
   subst e
   induction k with
   | zero=>exact rfl
   | succ k=>exact .cons r (ih rs k)
theorem RepDs.drop (h : RepDs I vs ds) (k : Nat) : RepDs I (vs.drop k) (ds.drop k):=by
 induction ds generalizing vs k with
 | nil=>rw [show vs=[] from h,List.drop_nil,List.drop_nil]; exact rfl
 | cons d ds ih=>
  exact h.el fun v us e r rs=>by
   subst e
   induction k with
   | zero=>exact .cons r rs
   | succ k=>exact ih rs k
theorem RepDs.reverse (h : RepDs I vs ds) : RepDs I vs.reverse ds.reverse:=by
 induction ds generalizing vs with
 | nil=>exact (show vs=[] from h) ▸ rfl
 | cons d ds ih=>
  exact h.el fun v us e r rs=>by
   rw [e,List.reverse_cons,List.reverse_cons]; exact (ih rs).append (.cons r rfl)
theorem RepDs.set (h : RepDs I vs ds) (hd : RepD I v d) (k : Nat) : RepDs I (vs.set k v) (ds.set k d):=by
 induction ds generalizing vs k with
 | nil=>exact (show vs=[] from h) ▸ rfl
 | cons x ds ih=>
  exact h.el fun w us e r rs=>by
   subst e
   induction k with
   | zero=>exact .cons hd rs
   | succ k=>exact .cons r (ih rs k)
end
mutual
noncomputable def toP : D→PyData
 | .none=>.none
 | .bool b=>.bool b
 | .int i=>.int i
 | .str l=>.str ⟨l.toArray⟩
 | .tup xs=>.tuple (toPs xs)
 | .lst xs=>.list (toPs xs)
noncomputable def toPs : List D→List PyData
 | []=>[]
 | x :: xs=>toP x :: toPs xs
end
section
variable {I : Imm} {h : Heap} {v : Value} {d : D} {vs : List Value} {ds : List D}
theorem RepDs.reads0 (k : ∀ x∈ds,∀ v,RepD I v x→∃ as,Reads h v (toP x) as) (r : RepDs I vs ds) : ∃ as,ReadsAll h vs (toPs ds) as:=by
 induction ds generalizing vs with
 | nil=>exact (show vs=[] from r) ▸ ⟨_,.nil⟩
 | cons d ds ih=>exact r.el fun v us e r rs=>e ▸ (k _ (.head _) v r).elim fun as q=>(ih (fun x hx=>k x (.tail _ hx)) rs).elim fun bs p=>⟨_,.cons q p⟩
theorem RepD.reads1 (k : ∀ b o,I b=some o→h.get? b=some o) : ∀ d v,RepD I v d→∃ as,Reads h v (toP d) as:=
 D.ind (P:=fun d=>∀ v,RepD I v d→∃ as,Reads h v (toP d) as) (fun v r=>(show v=.none from r) ▸ ⟨_,.none⟩) (fun b v r=>(show v=.bool b from r) ▸ ⟨_,.bool b⟩)
  (fun i v r=>r.int_el (T:=fun v=>∃ as,Reads h v (toP (.int i)) as) fun t=>⟨_,.int i t⟩) (fun l v r=>r.str_el (T:=fun v=>∃ as,Reads h v (toP (.str l)) as) fun t _ _=>⟨_,.str _ t⟩)
  (fun xs ih v r=>Sq.el (T:=fun v=>∃ as,Reads h v (toP (.tup xs)) as) r fun a o vs n e1 e2 e3 r=>(r.1.reads0 ih).elim fun as q=>⟨_,.tuple (k _ _ e1) e2 e3 q⟩)
  fun xs ih v r=>Sq.el (T:=fun v=>∃ as,Reads h v (toP (.lst xs)) as) r fun a o vs n e1 e2 e3 r=>(r.1.reads0 ih).elim fun as q=>⟨_,.list (k _ _ e1) e2 e3 q⟩
theorem RepD.reads (k : ∀ b o,I b=some o→h.get? b=some o) (r : RepD I v d) : ∃ as,Reads h v (toP d) as:=RepD.reads1 k d v r
theorem RepDs.reads (k : ∀ b o,I b=some o→h.get? b=some o) (r : RepDs I vs ds) : ∃ as,ReadsAll h vs (toPs ds) as:=r.reads0 fun x _ v=>RepD.reads1 k x v
theorem lay_str {l : List Nat} (h : ∀ c∈l,c < 128) : (PyData.str ⟨l.toArray⟩).canLay0=true:=Array.all_eq_true.mpr fun i hi=>by
 have:=h l[i] (List.getElem_mem _)
 simp at this ⊢
 exact dr this rfl
theorem RepDs.lay0 (k : ∀ x∈ds,∀ v,RepD I v x→(toP x).canLay0=true) (r : RepDs I vs ds) : PyData.canLayAll0 (toPs ds)=true:=by
 induction ds generalizing vs with
 | nil=>rfl
 | cons d ds ih=>exact r.el fun v us e r rs=>Bool.and_eq_true_iff.mpr ⟨k _ (.head _) v r,ih (fun x hx=>k x (.tail _ hx)) rs⟩
theorem RepD.lay1 : ∀ d v,RepD I v d→(toP d).canLay0=true:=
 D.ind (P:=fun d=>∀ v,RepD I v d→(toP d).canLay0=true) (fun _ _=>rfl) (fun _ _ _=>rfl) (fun _ _ _=>rfl) (fun l v r=>r.elim fun t e=>lay_str e.2.1) (fun xs ih v r=>Sq.el (T:=fun _=>(toP (.tup xs)).canLay0=true) r fun a o vs n _ _ _ r=>r.1.lay0 ih)
  fun xs ih v r=>Sq.el (T:=fun _=>(toP (.lst xs)).canLay0=true) r fun a o vs n _ _ _ r=>r.1.lay0 ih
theorem RepD.lay (r : RepD I v d) : (toP d).canLay0=true:=RepD.lay1 d v r
theorem RepDs.lay (r : RepDs I vs ds) : PyData.canLayAll0 (toPs ds)=true:=r.lay0 fun x _ v=>RepD.lay1 x v
theorem str_eqv (x y : List Nat) : PyData.eqv (.str ⟨x.toArray⟩) (.str ⟨y.toArray⟩)=(x == y):=by
 show ((⟨x.toArray⟩ : Str) == ⟨y.toArray⟩)=(x == y)
 rw [Bool.eq_iff_iff,beq_iff_eq,beq_iff_eq]
 exact ⟨fun h=>by injection h with h; injection h,fun h=>h ▸ rfl⟩
theorem toPs_eqv0 {xs : List D} (k : ∀ x∈xs,∀ b,PyData.eqv (toP x) (toP b)=D.eq x b) : ∀ ys,PyData.eqvAll (toPs xs) (toPs ys)=D.eqs xs ys:=by
 induction xs with
 | nil=>intro ys; cases ys <;> rfl
 | cons x xs ih=>
  intro ys
  cases ys with
  | nil=>rfl
  | cons y ys=>exact congr (congrArg and (k x (.head _) y)) (ih (fun z hz=>k z (.tail _ hz)) ys)
theorem toP_eqv : ∀ a b : D,PyData.eqv (toP a) (toP b)=D.eq a b:=by
 refine D.ind (P:=fun a=>∀ b,PyData.eqv (toP a) (toP b)=D.eq a b) (fun b=>?_) (fun x b=>?_) (fun x b=>?_) (fun x b=>?_) (fun xs ih b=>?_) fun xs ih b=>?_
 ·cases b <;> rfl
 ·cases b <;> rfl
 ·cases b <;> rfl
 ·cases b with
  | str y=>exact str_eqv x y
  | _=>rfl
 ·cases b with
  | tup ys=>exact toPs_eqv0 ih ys
  | _=>rfl
 ·cases b with
  | lst ys=>exact toPs_eqv0 ih ys
  | _=>rfl
theorem deps0 {xs : List D} (k : ∀ x∈xs,(toP x).depth=x.dep) : PyData.depthAll (toPs xs)=D.deps xs:=by
 induction xs with
 | nil=>rfl
 | cons x xs ih=>exact congr (congrArg max (k x (.head _))) (ih fun y hy=>k y (.tail _ hy))
theorem toP_depth : ∀ a : D,(toP a).depth=a.dep:=
 D.ind rfl (fun _=>rfl) (fun _=>rfl) (fun _=>rfl) (fun xs ih=>congrArg (· + 1) (deps0 ih)) fun xs ih=>congrArg (· + 1) (deps0 ih)
end
end Mine
namespace Mine
open PySem PySem.W PySem.Calls PyProof.Rows
structure Wo where
 prog : Program
 w : World
 K : Frag
 base : Heap
 mg : Str→Option Value
 mb : Str→Option Value
 kin : K.In base
 g : base.Ns mainGlobals mg
 b : base.Ns builtinsNs mb
 nolimit : base.NoLimit
 nodigits : ∃ mc,base.Ns cStatics mc∧mc "sys.int_max_str_digits"=none
 boot : ∀ x : Str,x ≠ "__name__"→mb x=bootBuiltins x
noncomputable abbrev Wo.m (W : Wo) : Model:=model W.prog W.w
inductive Cell where
 | ns (m : Str→Option Value)
 | lst (vs : List Value)
 | wd (ra : Addr) (i : Int)
 | obj (o : Obj)
noncomputable def WdObj (P : Params) (ra : Addr) (i : Int) (o : Obj) : Prop:=
 ∃ t1 t2 t3 n sl,o=⟨.type "dict",none,.dict #[⟨PyData.keyHash P "rows",.str "rows" t1,.ref ra⟩,⟨PyData.keyHash P "at",.str "at" t2,.int i t3⟩] n,sl⟩
noncomputable def CellAt (W : Wo) (h : Heap) (a : Addr) : Cell→Prop
 | .ns m=>h.Ns a m
 | .lst vs=>h.PlainList a vs.toArray
 | .wd ra i=>∃ o,h.get? a=some o∧WdObj W.w.params ra i o
 | .obj o=>h.get? a=some o∧∀ vs,o.data ≠ .fields vs
section
variable {W : Wo} {h h' : Heap} {a : Addr} {c : Cell}
theorem WdObj.el {P : Params} {ra : Addr} {i : Int} {o : Obj} {T : Prop} (h : WdObj P ra i o) (k : ∀ t1 t2 t3 n sl,o=⟨.type "dict",none,.dict #[⟨PyData.keyHash P "rows",.str "rows" t1,.ref ra⟩,⟨PyData.keyHash P "at",.str "at" t2,.int i t3⟩] n,sl⟩→T) : T:=
 h.elim fun t1 h=>h.elim fun t2 h=>h.elim fun t3 h=>h.elim fun n h=>h.elim fun sl h=>k t1 t2 t3 n sl h
theorem cell_el {T : Prop} (x : CellAt W h a c) (k : ∀ o,h.get? a=some o→(∀ vs,o.data ≠ .fields vs)→(∀ h' : Heap,h'.get? a=some o→CellAt W h' a c)→T) : T:=by
 induction c with
 | ns m=>exact E33 x fun o es ep ho hd r=>k o ho (fun vs q=>by rw [hd] at q; cases q) fun h' e=>⟨o,es,ep,e,hd,r⟩
 | lst vs=>exact E11 x fun n ho=>k _ ho (fun vs q=>nomatch q) fun h' e=>⟨n,e⟩
 | obj o=>exact k o x.1 x.2 fun h' e=>⟨e,x.2⟩
 | wd ra i=>exact E12 x fun o ho e=>k o ho (fun vs q=>e.el fun _ _ _ _ _ e=>by rw [e] at q; cases q) fun h' e'=>⟨o,e',e⟩
theorem cell_rec (x : CellAt W h a c) (k : ∀ o,h.get? a=some o→(∀ vs,o.data ≠ .fields vs)→h'.get? a=some o) : CellAt W h' a c:=cell_el x fun o e n q=>q h' (k o e n)
theorem cell_same (x : CellAt W h a c) (k : ∀ o,h.get? a=some o→h'.get? a=some o) : CellAt W h' a c:=cell_rec x fun o e _=>k o e
end
noncomputable def Cell.isNs : Cell→Bool
 | .ns _=>true
 | _=>false
noncomputable abbrev Led:=List (Addr × Cell)
noncomputable def But (a : Addr) (h h' : Heap) : Prop:=∀ b o,b ≠ a→h.get? b=some o→h'.get? b=some o
structure Inv (W : Wo) (I : Imm) (M : Led) (h : Heap) : Prop where
 imm : ∀ b o,I b=some o→h.get? b=some o
 mu : ∀ p∈M,I p.1=none∧CellAt W h p.1 p.2
 nd : (M.map (·.1)).Nodup
structure New (I : Imm) (M : Led) (a : Addr) : Prop where
 i : I a=none
 m : ∀ p∈M,p.1 ≠ a
section
variable {W : Wo} {I : Imm} {M M' A B : Led} {h h' : Heap} {a : Addr} {o : Obj} {c c' : Cell}
theorem Inv.live (N : Inv W I M h) {p : Addr × Cell} (hp : p∈M) : ∃ o,h.get? p.1=some o:=cell_el (N.mu p hp).2 fun o e _ _=>⟨o,e⟩
theorem Inv.keeps (N : Inv W I M h) (k : ∀ b o,h.get? b=some o→h'.get? b=some o) : Inv W I M h':=
 ⟨fun b o e=>k b o (N.imm b o e),fun p hp=>⟨(N.mu p hp).1,cell_same (N.mu p hp).2 fun o e=>k _ o e⟩,N.nd⟩
theorem Inv.but (N : Inv W I M h) (k : But a h h') (f : New I M a) : Inv W I M h':=
 ⟨fun b o e=>k b o (fun q=>by rw [q,f.i] at e; cases e) (N.imm b o e),fun p hp=>⟨(N.mu p hp).1,cell_same (N.mu p hp).2 fun o e=>k _ o (f.m p hp) e⟩,N.nd⟩
theorem Inv.fresh (N : Inv W I M h) (e : h.get? a=none) : New I M a:=by
 refine ⟨?_,fun p hp q=>E11 (N.live hp) fun o ho=>by rw [q,e] at ho; cases ho⟩
 cases q : I a with
 | none=>rfl
 | some o=>have:=N.imm a o q; rw [e] at this; cases this
theorem get_size (h : Heap) : h.get? h.objs.size=none:=by
 cases e : h.get? h.objs.size with
 | none=>rfl
 | some o=>exact absurd (Heap.lt_size e) (Nat.lt_irrefl _)
theorem Inv.addI (N : Inv W I M h) (e : h.get? a=some o) (f : New I M a) : Inv W (I.add a o) M h:=
 ⟨fun b o' q=>if z : b=a then by rw [Imm.add,if_pos z] at q; cases q; rw [z]; exact e else N.imm b o' ((if_neg z).symm.trans q),fun p hp=>⟨(if_neg (f.m p hp)).trans (N.mu p hp).1,(N.mu p hp).2⟩,N.nd⟩
theorem Inv.addM (N : Inv W I M h) (e : CellAt W h a c) (f : New I M a) : Inv W I ((a,c) :: M) h:=
 ⟨N.imm,fun p hp=>(List.mem_cons.mp hp).elim (fun q=>q ▸ ⟨f.i,e⟩) (N.mu p),List.nodup_cons.mpr ⟨fun q=>E12 (List.mem_map.mp q) fun p hp z=>f.m p hp z,N.nd⟩⟩
theorem Inv.forget (N : Inv W I M h) (s : M'.Sublist M) : Inv W I M' h:=⟨N.imm,fun p hp=>N.mu p (s.subset hp),N.nd.sublist (s.map _)⟩
theorem Inv.perm (N : Inv W I M h) (s : M'.Perm M) : Inv W I M' h:=⟨N.imm,fun p hp=>N.mu p (s.subset hp),(s.map _).nodup_iff.mpr N.nd⟩
theorem Inv.tail (N : Inv W I ((a,c) :: M) h) : Inv W I M h∧New I M a:=⟨N.forget (List.sublist_cons_self _ _),(N.mu _ (.head _)).1,fun p hp z=>(List.nodup_cons.mp N.nd).1 (List.mem_map.mpr ⟨p,hp,z⟩)⟩
theorem Inv.set (N : Inv W I ((a,c) :: M) h) (k : But a h h') (e : CellAt W h' a c') : Inv W I ((a,c') :: M) h':=(N.tail.1.but k N.tail.2).addM e N.tail.2
theorem Inv.set2 {b : Addr} {d d' : Cell} (N : Inv W I ((a,c) :: (b,d) :: M) h) (k : ∀ x o,x ≠ a→x ≠ b→h.get? x=some o→h'.get? x=some o) (e : CellAt W h' a c') (e2 : CellAt W h' b d') : Inv W I ((a,c') :: (b,d') :: M) h':=
 have n : ∀ {x o y},I x=some o→I y=none→x ≠ y:=fun {x o y} q z w=>by rw [w,z] at q; cases q
 ⟨fun x o q=>k x o (n q N.tail.2.i) (n q N.tail.1.tail.2.i) (N.imm x o q),fun p hp=>(List.mem_cons.mp hp).elim (fun q=>q ▸ ⟨N.tail.2.i,e⟩) fun hp=>(List.mem_cons.mp hp).elim (fun q=>q ▸ ⟨N.tail.1.tail.2.i,e2⟩) fun hp=>⟨(N.mu p (.tail _ (.tail _ hp))).1,cell_same (N.mu p (.tail _ (.tail _ hp))).2 fun o q=>k _ o (N.tail.2.m p (.tail _ hp)) (N.tail.1.tail.2.m p hp) q⟩,N.nd⟩
theorem Inv.freeze (N : Inv W I ((a,c) :: M) h) (e : h.get? a=some o) : Inv W (I.add a o) M h:=N.tail.1.addI e N.tail.2
theorem Inv.out (N : Inv W I (A ++ (a,c) :: B) h) : Inv W I ((a,c) :: (A ++ B)) h:=N.perm List.perm_middle.symm
theorem Inv.in_ (N : Inv W I ((a,c) :: (A ++ B)) h) : Inv W I (A ++ (a,c) :: B) h:=N.perm List.perm_middle
end
structure Gh where
 I : Imm
 M : Led
 m : Str→Option Value
noncomputable abbrev Gh.α (G : Gh) : List Addr:=G.M.map (·.1)
noncomputable def EntRel (I : Imm) (α : List Addr) (x : Cell) : Ent→Prop
 | .lst xs=>∃ vs,x=.lst vs∧RepDs I vs xs∧xs.length≤LIM
 | .wd r i=>∃ ra,x=.wd ra i∧α[r]?=some ra
theorem prefix_get {α β : List Addr} (p : α <+: β) {i : Nat} {a : Addr} (e : α[i]?=some a) : β[i]?=some a:=by
 refine E11 p fun t q=>?_
 rw [← q,List.getElem?_append_left (List.getElem?_eq_some_iff.mp e).1]; exact e
theorem EntRel.mono {I J : Imm} {α β : List Addr} {x : Cell} {e : Ent} (k : ∀ b o,I b=some o→isRow o→J b=some o) (p : α <+: β) (h : EntRel I α x e) : EntRel J β x e:=by
 induction e with
 | lst xs=>exact E13 h fun vs e r l=>⟨vs,e,r.gen0 fun x _ v=>RepD.gen k x v,l⟩
 | wd r i=>exact E12 h fun ra e q=>⟨ra,e,prefix_get p q⟩
noncomputable def WfS (σ : Store) : Prop:=∀ (i r : Nat) (a : Int),σ[i]?=some (Ent.wd r a)→r < i
noncomputable def wfE (i : Nat) (e : Ent) : Prop:=∀ (r : Nat) (a : Int),e=Ent.wd r a→r < i
section
variable {σ : Store} {e e' : Ent} {i j n : Nat}
theorem set_el {α : Type} {l : List α} {x y : α} {T : Prop} (q : (l.set i x)[j]?=some y) (h : i=j→x=y→T) (k : l[j]?=some y→T) : T:=by
 rw [List.getElem?_set] at q
 exact if z : i=j then by
  rw [if_pos z] at q
  exact if w : i < l.length then by rw [if_pos w] at q; exact h z (Option.some.inj q) else by rw [if_neg w] at q; cases q
 else k ((if_neg z).symm.trans q)
theorem snoc_el {α : Type} {l : List α} {x y : α} {T : Prop} (q : (l ++ [x])[j]?=some y) (h : j=l.length→x=y→T) (k : l[j]?=some y→T) : T:=by
 rcases Nat.lt_or_ge j l.length with z | z
 ·rw [List.getElem?_append_left z] at q; exact k q
 ·rw [List.getElem?_append_right z] at q
  cases w : j - l.length with
  | zero=>rw [w] at q; exact h (Nat.le_antisymm (Nat.le_of_sub_eq_zero w) z) (Option.some.inj q)
  | succ k=>rw [w] at q; cases q
theorem take_el {α : Type} {l : List α} {y : α} (q : (l.take n)[j]?=some y) : j < n∧l[j]?=some y:=by
 rw [List.getElem?_take] at q
 exact if z : j < n then ⟨z,(if_pos z).symm.trans q⟩ else by rw [if_neg z] at q; cases q
theorem WfS.set (h : WfS σ) (he : wfE i e) : WfS (σ.set i e):=fun j r a q=>set_el q (fun z w=>z ▸ he r a w) (h j r a)
theorem WfS.add (h : WfS σ) (he : wfE σ.length e) : WfS (σ ++ [e]):=fun j r a q=>snoc_el q (fun z w=>z ▸ he r a w) (h j r a)
theorem WfS.take (h : WfS σ) (n : Nat) : WfS (σ.take n):=fun j r a q=>h j r a (take_el q).2
theorem wf_lst {xs : List D} : wfE i (.lst xs):=fun _ _ q=>nomatch q
end
structure St (W : Wo) (G : Gh) (σ : Store) (L : Addr) (Fs : Led) (h : Heap) : Prop where
 inv : Inv W G.I ((L,.ns G.m) :: (G.M ++ Fs)) h
 ent : ∀ (i : Nat) (e : Ent),σ[i]?=some e→∃ p : Addr × Cell,G.M[i]?=some p∧EntRel G.I G.α p.2 e
 len : G.M.length=σ.length
 above : W.base.objs.size≤L
 base : ∀ b o,W.base.get? b=some o→G.I b=some o
 wf : WfS σ
structure Gh.leX (G G' : Gh) : Prop where
 I : Imm.le G.I G'.I
 α : G.α <+: G'.α
structure Gh.le (G G' : Gh) : Prop extends Gh.leX G G' where
 m : G'.m=G.m
theorem Gh.leX.refl (G : Gh) : Gh.leX G G:=⟨Imm.le.refl _,List.prefix_rfl⟩
theorem Gh.leX.trans {G G' G'' : Gh} (a : Gh.leX G G') (b : Gh.leX G' G'') : Gh.leX G G'':=⟨a.I.trans b.I,a.α.trans b.α⟩
theorem Gh.le.refl (G : Gh) : Gh.le G G:=⟨.refl _,rfl⟩
theorem Gh.le.trans {G G' G'' : Gh} (a : Gh.le G G') (b : Gh.le G' G'') : Gh.le G G'':=⟨a.toleX.trans b.toleX,b.m.trans a.m⟩
noncomputable def Gh.addI (G : Gh) (a : Addr) (o : Obj) : Gh:={ G with I:=G.I.add a o }
noncomputable def Gh.addM (G : Gh) (a : Addr) (c : Cell) : Gh:={ G with M:=G.M ++ [(a,c)] }
section
variable {W : Wo} {G : Gh} {σ : Store} {L a : Addr} {Fs : Led} {h h' : Heap} {o : Obj} {c c' : Cell} {e e' : Ent} {i : Nat}
theorem St.ns (x : St W G σ L Fs h) : h.Ns L G.m:=(x.inv.mu (L,.ns G.m) (.head _)).2
theorem St.keeps (x : St W G σ L Fs h) (k : ∀ b o,h.get? b=some o→h'.get? b=some o) : St W G σ L Fs h':={ x with inv:=x.inv.keeps k }
theorem St.but (x : St W G σ L Fs h) (e : h.get? a=none) (k : But a h h') : St W G σ L Fs h':={ x with inv:=x.inv.but k (x.inv.fresh e) }
theorem St.base_get (x : St W G σ L Fs h) {b : Addr} (e : W.base.get? b=some o) : h.get? b=some o:=x.inv.imm b o (x.base b o e)
theorem St.freezeI (x : St W G σ L Fs h) (e : h.get? a=some o) (f : New G.I ((L,.ns G.m) :: (G.M ++ Fs)) a) : St W (G.addI a o) σ L Fs h∧Gh.le G (G.addI a o):=
 have k:=Imm.le.add (o:=o) f.i
 ⟨⟨x.inv.addI e f,fun i e q=>E12 (x.ent i e q) fun p hp r=>⟨p,hp,r.mono (fun b o e _=>k b o e) List.prefix_rfl⟩,x.len,x.above,fun b o q=>k b o (x.base b o q),x.wf⟩,⟨k,List.prefix_rfl⟩,rfl⟩
theorem St.addI (x : St W G σ L Fs h) (e : h.get? a=none) (k : But a h h') (e' : h'.get? a=some o) : St W (G.addI a o) σ L Fs h'∧Gh.le G (G.addI a o):=(x.but e k).freezeI e' (x.inv.fresh e)
theorem St.setNs (x : St W G σ L Fs h) {m' : Str→Option Value} (k : But L h h') (e : h'.Ns L m') : St W { G with m:=m' } σ L Fs h':=⟨x.inv.set k e,x.ent,x.len,x.above,x.base,x.wf⟩
theorem split_at {α : Type} {l : List α} {x : α} (e : l[i]?=some x) : l=l.take i ++ x :: l.drop (i + 1):=by
 have hi:=(List.getElem?_eq_some_iff.mp e).1
 rw [← (List.getElem?_eq_some_iff.mp e).2,List.getElem_cons_drop,List.take_append_drop]
theorem set_at {α : Type} {l : List α} {x y : α} (e : l[i]?=some x) : l.set i y=l.take i ++ y :: l.drop (i + 1):=by
 rw [List.set_eq_take_append_cons_drop,if_pos (List.getElem?_eq_some_iff.mp e).1]
theorem St.outM (x : St W G σ L Fs h) {p : Addr × Cell} (e : G.M[i]?=some p) : Inv W G.I (p :: ((L,.ns G.m) :: ((G.M.take i ++ G.M.drop (i + 1)) ++ Fs))) h:=by
 have N:=x.inv
 rw [split_at e,List.append_assoc,List.cons_append] at N
 rw [List.append_assoc]
 exact Inv.out (A:=(L,.ns G.m) :: G.M.take i) N
theorem St.inM {I : Imm} {m : Str→Option Value} {p q : Addr × Cell} (e : G.M[i]?=some p) (N : Inv W I (q :: ((L,.ns m) :: ((G.M.take i ++ G.M.drop (i + 1)) ++ Fs))) h) : Inv W I ((L,.ns m) :: (G.M.set i q ++ Fs)) h:=by
 rw [set_at e,List.append_assoc,List.cons_append]
 rw [List.append_assoc] at N
 exact Inv.in_ (A:=(L,.ns m) :: G.M.take i) N
theorem St.el (x : St W G σ L Fs h) {T : Prop} (q : σ[i]?=some e) (k : ∀ a c,G.M[i]?=some (a,c)→G.α[i]?=some a→EntRel G.I G.α c e→CellAt W h a c→T) : T:=
 E12 (x.ent i e q) fun p hp r=>k p.1 p.2 hp (by rw [List.getElem?_map,hp]; rfl) r ((x.outM hp).mu _ (.head _)).2
theorem set_self {α : Type} {l : List α} {x : α} (e : l[i]?=some x) : l.set i x=l:=by
 rw [← (List.getElem?_eq_some_iff.mp e).2]; exact List.set_getElem_self _
theorem map_set {M : Led} (ha : M[i]?=some (a,c)) : (M.set i (a,c')).map (·.1)=M.map (·.1):=by
 rw [List.map_set]
 exact set_self (by rw [List.getElem?_map,ha]; rfl)
theorem St.setEnt0 (x : St W G σ L Fs h) (ha : G.M[i]?=some (a,c)) (N : Inv W G.I ((a,c') :: ((L,.ns G.m) :: ((G.M.take i ++ G.M.drop (i + 1)) ++ Fs))) h') (r : EntRel G.I G.α c' e') (hw : wfE i e') : St W { G with M:=G.M.set i (a,c') } (σ.set i e') L Fs h':=by
 have eα:=map_set (c':=c') ha
 refine ⟨St.inM ha N,fun j f q=>?_,(List.length_set ..).trans (x.len.trans (List.length_set ..).symm),x.above,x.base,x.wf.set hw⟩
 show ∃ p,(G.M.set i (a,c'))[j]?=some p∧EntRel G.I ((G.M.set i (a,c')).map (·.1)) p.2 f
 rw [eα]
 exact if z : i=j then by
  subst z
  rw [List.getElem?_set_self (x.len ▸ (List.getElem?_eq_some_iff.mp ha).1)] at q
  exact ⟨_,List.getElem?_set_self (List.getElem?_eq_some_iff.mp ha).1,Option.some.inj q ▸ r⟩
 else by
  rw [List.getElem?_set_ne z] at q ⊢
  exact x.ent j f q
theorem St.setEnt (x : St W G σ L Fs h) (ha : G.M[i]?=some (a,c)) (k : But a h h') (e : CellAt W h' a c') (r : EntRel G.I G.α c' e') (hw : wfE i e') : St W { G with M:=G.M.set i (a,c') } (σ.set i e') L Fs h':=x.setEnt0 ha ((x.outM ha).set k e) r hw
theorem St.pushM (x : St W G σ L Fs h) (q : CellAt W h a c) (f : New G.I ((L,.ns G.m) :: (G.M ++ Fs)) a) (r : EntRel G.I (G.α ++ [a]) c e) (hw : wfE σ.length e) : St W (G.addM a c) (σ ++ [e]) L Fs h∧Gh.le G (G.addM a c):=by
 have eα : (G.M ++ [(a,c)]).map (·.1)=G.α ++ [a]:=List.map_append
 have p : G.α <+: G.α ++ [a]:=List.prefix_append _ _
 refine ⟨⟨?_,fun j f' q'=>?_,by show (G.M ++ [(a,c)]).length=_; rw [List.length_append,List.length_append,x.len]; rfl,x.above,x.base,x.wf.add hw⟩,⟨Imm.le.refl _,by show G.α <+: (G.M ++ [(a,c)]).map (·.1); rw [eα]; exact p⟩,rfl⟩
 ·show Inv W G.I ((L,.ns G.m) :: ((G.M ++ [(a,c)]) ++ Fs)) h
  rw [List.append_assoc]
  exact Inv.in_ (A:=(L,.ns G.m) :: G.M) (B:=Fs) (x.inv.addM q f)
 ·show ∃ p,(G.M ++ [(a,c)])[j]?=some p∧EntRel G.I ((G.M ++ [(a,c)]).map (·.1)) p.2 f'
  rw [eα]
  refine snoc_el q' (fun z w=>?_) fun q'=>E12 (x.ent j f' q') fun p' hp r'=>⟨p',by rw [List.getElem?_append_left (List.getElem?_eq_some_iff.mp hp).1]; exact hp,r'.mono (fun b o e _=>e) p⟩
  rw [z,← x.len,List.getElem?_append_right (Nat.le_refl _),Nat.sub_self]
  exact ⟨_,rfl,w ▸ r⟩
theorem St.addEnt (x : St W G σ L Fs h) (n : h.get? a=none) (k : But a h h') (q : CellAt W h' a c) (r : EntRel G.I (G.α ++ [a]) c e) (hw : wfE σ.length e) : St W (G.addM a c) (σ ++ [e]) L Fs h'∧Gh.le G (G.addM a c):=(x.but n k).pushM q (x.inv.fresh n) r hw
theorem St.α_top (x : St W G σ L Fs h) : (G.addM a c).α[σ.length]?=some a:=by
 show ((G.M ++ [(a,c)]).map (·.1))[σ.length]?=some a
 rw [List.map_append,List.getElem?_append_right (by rw [List.length_map,x.len]; exact Nat.le_refl _),List.length_map,x.len,Nat.sub_self]; rfl
theorem St.fr (x : St W G σ L Fs h) : Fr W.base L h G.m:=⟨x.ns,fun b o e=>x.base_get e,x.above⟩
noncomputable def allNews (base h : Heap) (L : Addr) : List (Addr × Obj):=
 (List.range h.objs.size).filterMap fun (b : Nat)=>if b=L∨(base.get? b).isSome=true then none else (h.get? b).map fun o=>(b,o)
theorem allNews_mem {base : Heap} {b : Addr} (e : h.get? b=some o) (hb : b ≠ L) (hn : base.get? b=none) : (b,o)∈allNews base h L:=
 List.mem_filterMap.mpr ⟨b,List.mem_range.mpr (Heap.lt_size e),by rw [if_neg (fun z=>z.elim hb fun z=>by rw [hn] at z; cases z),e]; rfl⟩
theorem allNews_of {base : Heap} {p : Addr × Obj} (m : p∈allNews base h L) : h.get? p.1=some p.2∧p.1 ≠ L∧base.get? p.1=none:=
 E12 (List.mem_filterMap.mp m) fun b _ e=>if z : b=L∨(base.get? b).isSome=true then by rw [if_pos z] at e; cases e else by
  rw [if_neg z] at e
  exact E12 (Option.map_eq_some_iff.mp e) fun o ho q=>q ▸ ⟨ho,fun q=>z (.inl q),Option.not_isSome_iff_eq_none.mp fun q=>z (.inr q)⟩
theorem St.news (x : St W G σ L Fs h) : News W.base L h (allNews W.base h L):=fun p hp=>allNews_of hp
theorem St.backNs (x : St W G σ L Fs h) (k : But L h h') (e : h'.Ns L G.m) : St W G σ L Fs h':={ x with inv:=x.inv.set k e }
theorem St.kept (x : St W G σ L Fs h) {news : List (Addr × Obj)} (F' : Fr W.base L h' G.m) (N' : News W.base L h' news) (s : ∀ p∈allNews W.base h L,p∈news) : But L h h':=fun b o hb e=>by
 cases q : W.base.get? b with
 | none=>exact (N' _ (s _ (allNews_mem e hb q))).1
 | some o'=>
  rw [Option.some.inj (e.symm.trans (x.base_get q))]
  exact F'.keep b o' q
theorem St.back (x : St W G σ L Fs h) {news : List (Addr × Obj)} (F' : Fr W.base L h' G.m) (N' : News W.base L h' news) (s : ∀ p∈allNews W.base h L,p∈news) : St W G σ L Fs h':=x.backNs (x.kept F' N' s) F'.ns
end
end Mine
namespace Mine
open PySem PySem.W PySem.Calls PyProof.Rows
noncomputable def fnNms : List Str:=List.map Str.ofString ["plain","without_spot","write_angles","write_path","write_type","write_row","write_generics","write_pattern","write_part","write_referred","write_literal","write_variant","is_long","write_fields","run_end","remark_end","blank_end","figure_worth","base_at","read_int","read_sign","read_word","word_rows","read_words","peek","take","looks","expect","name","split_close","read_type","read_paren_type","read_ref_type","read_array_type","read_spath","read_segment","read_path_name","read_arguments","is_closed","read_generics","read_param","is_plain_name","read_pattern","read_part","is_alone","read_ref_pattern","read_paren_pattern","read_whole","read_number","read_binding","read_variant","read_places","read_fields","read_field","_law_pool","_law_take","_law_one","_law_path","_law_type","_law_params","_law_name","_law_fields","_law_sort","_law_gap","_law_row","_law_path_text","_law_type_text","_law_field_text","_law_plain_sort","_law_sort_text","_law_back","_law_is_bare","law"]
noncomputable def fnNm (f : Fn) : Str:=fnNms.getD f.ctorIdx "x"
noncomputable def wms : List Fn:=[.wPeek,.wTake,.wLooks,.wExpect,.wName,.wSplitClose]
noncomputable def isWm (f : Fn) : Bool:=wms.contains f
noncomputable def vAdr (v : Option (Option Value)) : Addr:=@Option.casesOn _ (fun _=>Addr) v 0 fun o=>@Option.casesOn _ (fun _=>Addr) o 0 fun
 | .ref a=>a
 | _=>0
noncomputable def wordsC (K : Frag) : Addr:=vAdr (nsIn K mainGlobals "Words")
noncomputable def gfC (K : Frag) : Addr:=vAdr (nsIn K mainGlobals "GrammarFault")
noncomputable def fa (K : Frag) (f : Fn) : Addr:=vAdr (if isWm f then findIn K (.ref (wordsC K)) (fnNm f) else nsIn K mainGlobals (fnNm f))
noncomputable def isInst (W : Wo) (dx : Addr) (o : Obj) : Prop:=o=instObj (wordsC W.K) dx
noncomputable def isRng (n : Nat) (o : Obj) : Prop:=∃ t u v,o={ cls:=.type "range",data:=.fields #[.int 0 t,.int n u,.int 1 v] }∧n≤1000000
noncomputable def isDct (W : Wo) (kvs : List (List Nat × Int)) (a : Addr) (o : Obj) : Prop:=o.cls=.type "dict"∧(∀ h : Heap,h.get? a=some o→∃ f,h.MapOf (PySem.strKind W.prog W.w) a f∧∀ x : List Nat,(f ⟨x.toArray⟩).isSome=kvs.any fun p=>p.1 == x)∧(a == sysModules)=false
noncomputable def ImmAt (I : Imm) (cv : Value) (R : Addr→Obj→Prop) : Prop:=∃ a o,cv=.ref a∧I a=some o∧R a o
noncomputable def RepV (W : Wo) (I : Imm) (α : List Addr) (cv : Value) : V→Prop
 | .d x=>RepD I cv x
 | .l i=>∃ a,cv=.ref a∧α[i]?=some a
 | .w j=>∃ dx,α[j]?=some dx∧ImmAt I cv fun _=>isInst W dx
 | .fn f=>cv=.ref (fa W.K f)∧isWm f=false
 | .rng n=>ImmAt I cv fun _=>isRng n
 | .dct kvs=>ImmAt I cv (isDct W kvs)
noncomputable def RepVs (W : Wo) (I : Imm) (α : List Addr) : List Value→List V→Prop
 | cvs,[]=>cvs=[]
 | cvs,x :: xs=>∃ v us,cvs=v :: us∧RepV W I α v x∧RepVs W I α us xs
section
variable {W : Wo} {I J : Imm} {α β : List Addr} {v cv : Value} {x : V} {us cvs dvs : List Value} {xs ys : List V} {a dx : Addr} {i : Nat} {f : Fn} {dd : D} {o : Obj} {R : Addr→Obj→Prop}
theorem ImmAt.el {T : Value→Prop} (h : ImmAt I cv R) (k : ∀ a o,I a=some o→R a o→T (.ref a)) : T cv:=h.elim fun a h=>h.elim fun o h=>h.1 ▸ k a o h.2.1 h.2.2
theorem ImmAt.mono (k : Imm.le I J) (h : ImmAt I cv R) : ImmAt J cv R:=h.el (T:=fun v=>ImmAt J v R) fun a o e r=>⟨a,o,rfl,k a o e,r⟩
theorem RepV.mono (k : Imm.le I J) (p : α <+: β) (h : RepV W I α v x) : RepV W J β v x:=by
 induction x with
 | d x=>exact RepD.mono k h
 | l i=>exact h.elim fun a h=>⟨a,h.1,prefix_get p h.2⟩
 | w j=>exact h.elim fun dx h=>⟨dx,prefix_get p h.1,h.2.mono k⟩
 | fn f=>exact h
 | rng n=>exact ImmAt.mono k h
 | dct kvs=>exact ImmAt.mono k h
theorem RepV.d (h : RepD I v dd) : RepV W I α v (.d dd):=h
theorem RepV.l (h : α[i]?=some a) : RepV W I α (.ref a) (.l i):=⟨a,rfl,h⟩
theorem RepV.fn (h : isWm f=false) : RepV W I α (.ref (fa W.K f)) (.fn f):=⟨rfl,h⟩
theorem RepVs.el {T : Prop} (h : RepVs W I α cvs (x :: xs)) (k : ∀ v us,cvs=v :: us→RepV W I α v x→RepVs W I α us xs→T) : T:=h.elim fun v h=>h.elim fun us h=>k v us h.1 h.2.1 h.2.2
theorem RepVs.cons (h : RepV W I α v x) (r : RepVs W I α us xs) : RepVs W I α (v :: us) (x :: xs):=⟨v,us,rfl,h,r⟩
theorem RepVs.mono (k : Imm.le I J) (p : α <+: β) (h : RepVs W I α cvs xs) : RepVs W J β cvs xs:=by
 induction xs generalizing cvs with
 | nil=>exact h
 | cons x xs ih=>exact h.el fun v us e r rs=>⟨v,us,e,r.mono k p,ih rs⟩
theorem RepVs.length (h : RepVs W I α cvs xs) : cvs.length=xs.length:=by
 induction xs generalizing cvs with
 | nil=>exact congrArg List.length h
 | cons x xs ih=>exact h.el fun v us e _ r=>e ▸ congrArg (· + 1) (ih r)
theorem RepVs.append (h : RepVs W I α cvs xs) (k : RepVs W I α dvs ys) : RepVs W I α (cvs ++ dvs) (xs ++ ys):=by
 induction xs generalizing cvs with
 | nil=>exact (show cvs=[] from h) ▸ k
 | cons x xs ih=>exact h.el fun v us e r rs=>e ▸ .cons r (ih rs)
theorem RepVs.get (h : RepVs W I α cvs xs) {i : Nat} (e : xs[i]?=some x) : ∃ v,cvs[i]?=some v∧RepV W I α v x:=by
 induction xs generalizing cvs i with
 | nil=>cases e
 | cons y ys ih=>
  exact h.el fun v us q r rs=>by
   subst q
   induction i with
   | zero=>exact ⟨v,rfl,Option.some.inj e ▸ r⟩
   | succ k=>exact ih rs e
end
noncomputable def LocAt (env : Env) (I : Imm) (m : Str→Option Value) (x : Str) (v : Value) : Prop:=
 (env.kindOf x=some .local∧m x=some v) ∨
 ((env.kindOf x=some .cell∨env.kindOf x=some .free∧(x == ("__classdict__" : Str))=false)∧∃ c o,env.cells.lookup x=some c∧I c=some o∧o.data=.cell (some v))
structure EnvOk (env : Env) (L : Addr) : Prop where
 kind : env.scope.kind=.function
 loc : env.locals=L
 glob : env.globals=mainGlobals
 bi : env.builtins=builtinsNs
 cl : ∀ x,env.kindOf x=some .cell∨env.kindOf x=some .free→(env.cells.lookup x).isSome=true
noncomputable abbrev Vars:=List (Str × Nat)
noncomputable def FrRel (W : Wo) (env : Env) (vs : Vars) (Γ : Loc) (I : Imm) (α : List Addr) (m : Str→Option Value) : Prop:=
 ∀ x i v,vs.lookup x=some i→Γ[i]?=some (some v)→∃ cv,LocAt env I m x cv∧RepV W I α cv v
structure Room (A : Around) (n : Nat) (fr : List Env) (L : Addr) (Fs : Led) : Prop where
 handled : A.handled=none
 depth : A.depth + n + 20 < recursionLimit
 units : A.units + 8 * n + 400 < cLine
 frames : A.frames=some fr
 kinds : ∀ e∈fr,e.scope.kind ≠ .module∧∃ L',e.frame=some L'∧(L'=L∨∃ m,(L',Cell.ns m)∈Fs)
structure FlyX (W : Wo) (I : Imm) (x : Addr) (y : Value) (h : Heap) : Prop where
 r : ∃ ox vs a0,h.get? x=some ox∧ox.cls=.ref (gfC W.K)∧ox.data=.fields vs∧vs[0]?=some a0∧vs[1]?=some y
 i : I x=none
structure Tr (W : Wo) (I : Imm) (x : Addr) (fl : Value) (h : Heap) (T : Addr) : Prop extends FlyX W I x (.ref T) h where
 ne : T ≠ x
 t : ∃ oT ts,h.get? T=some oT∧oT.data=.fields ts∧ts[3]?=some fl
 iT : I T=none
noncomputable def Fly (W : Wo) (I : Imm) (L x : Addr) (h : Heap) : Prop:=FlyX W I x .none h∨∃ T fl,(fl=.none∨fl=rawInt L)∧Tr W I x fl h T
structure Fx where
 n : Nat
 env : Env
 vs : Vars
structure Cx (F : Fx) where
 A : Around
 fr : List Env
 L : Addr
 Fs : Led
 r : Room A F.n fr L Fs
 e : EnvOk F.env L
structure Sx (W : Wo) {F : Fx} (C : Cx F) (Γ : Loc) where
 G : Gh
 σ : Store
 s : Shared
 X : St W G σ C.L C.Fs s.heap
 f : FrRel W F.env F.vs Γ G.I G.α G.m
noncomputable def Sm (s s' : Shared) : Prop:=s'={ s with heap:=s'.heap,toks:=s'.toks }
theorem Sm.trans {a b c : Shared} (h : Sm a b) (k : Sm b c) : Sm a c:=by
 unfold Sm at *
 rw [k,h]
section
variable {W : Wo} {F : Fx} {C : Cx F} {Γ Γ' Γ'' : Loc}
structure LeX (S : Sx W C Γ) (S' : Sx W C Γ') : Prop where
 g : Gh.leX S.G S'.G
 s : Sm S.s S'.s
structure Le (S S' : Sx W C Γ) : Prop where
 g : Gh.le S.G S'.G
 s : Sm S.s S'.s
noncomputable abbrev Sx.rep (S : Sx W C Γ) (cv : Value) (v : V) : Prop:=RepV W S.G.I S.G.α cv v
theorem Le.trans {S S' S'' : Sx W C Γ} (a : Le S S') (b : Le S' S'') : Le S S'':=⟨a.g.trans b.g,a.s.trans b.s⟩
theorem Le.x {S S' : Sx W C Γ} (a : Le S S') : LeX S S':=⟨a.g.toleX,a.s⟩
theorem Le.refl (S : Sx W C Γ) : Le S S:=⟨.refl _,rfl⟩
theorem LeX.trans {S : Sx W C Γ} {S' : Sx W C Γ'} {S'' : Sx W C Γ''} (a : LeX S S') (b : LeX S' S'') : LeX S S'':=⟨a.g.trans b.g,a.s.trans b.s⟩
theorem Le.rep {S S' : Sx W C Γ} (a : Le S S') {cv : Value} {v : V} (r : S.rep cv v) : S'.rep cv v:=r.mono a.g.I a.g.α
theorem LocAt.mono {env : Env} {I J : Imm} {m : Str→Option Value} {x : Str} {v : Value} (k : Imm.le I J) (h : LocAt env I m x v) : LocAt env J m x v:=h.imp id fun h=>⟨h.1,h.2.elim fun c h=>h.elim fun o h=>⟨c,o,h.1,k _ _ h.2.1,h.2.2⟩⟩
theorem FrRel.le {env : Env} {vs : Vars} {G G' : Gh} (k : Gh.le G G') (h : FrRel W env vs Γ G.I G.α G.m) : FrRel W env vs Γ G'.I G'.α G'.m:=fun x i v e1 e2=>E12 (h x i v e1 e2) fun cv a b=>⟨cv,k.m ▸ a.mono k.I,b.mono k.I k.α⟩
noncomputable abbrev Sx.to (S : Sx W C Γ) (G : Gh) (σ : Store) (h : Heap) (tk : Nat) (g : Gh.le S.G G) (X : St W G σ C.L C.Fs h) : Sx W C Γ:=⟨G,σ,{ S.s with heap:=h,toks:=tk },X,S.f.le g⟩
theorem Sx.to_le (S : Sx W C Γ) {G : Gh} {σ : Store} {h : Heap} {tk : Nat} (g : Gh.le S.G G) (X : St W G σ C.L C.Fs h) : Le S (S.to G σ h tk g X):=⟨g,rfl⟩
noncomputable def OutV (S : Sx W C Γ) (Q : Value→Shared→Prop) (K : Kv) : Prop:=∀ v cv (S' : Sx W C Γ),Le S S'→S'.rep cv v→K v S'.σ→Q cv S'.s
noncomputable def OutB (S : Sx W C Γ) (Q : Bool→Shared→Prop) (K : Kb) : Prop:=∀ b (S' : Sx W C Γ),Le S S'→K b S'.σ→Q b S'.s
noncomputable def OutR (S : Sx W C Γ) (Q : List Value→Shared→Prop) (K : List V→Store→Prop) : Prop:=∀ vs cvs (S' : Sx W C Γ),Le S S'→RepVs W S'.G.I S'.G.α cvs vs→K vs S'.σ→Q cvs S'.s
noncomputable def OutX (S : Sx W C Γ) (E : Value→Shared→Prop) (KE : Ke) : Prop:=∀ {Γ'} (S' : Sx W C Γ') x,LeX S S'→Fly W S'.G.I C.L x S'.s.heap→KE S'.σ→E (.ref x) S'.s
noncomputable def OutE (S : Sx W C Γ) (E : Value→Shared→Prop) (KE : Ke) : Prop:=∀ (S' : Sx W C Γ) x,Le S S'→Fly W S'.G.I C.L x S'.s.heap→KE S'.σ→E (.ref x) S'.s
theorem OutE.up {S S' : Sx W C Γ} {E : Value→Shared→Prop} {KE : Ke} (h : OutE S E KE) (l : Le S S') : OutE S' E KE:=fun S2 x l2=>h S2 x (l.trans l2)
theorem OutV.up {S S' : Sx W C Γ} {Q : Value→Shared→Prop} {K : Kv} (h : OutV S Q K) (l : Le S S') : OutV S' Q K:=fun v cv S2 l2=>h v cv S2 (l.trans l2)
theorem OutE.no {S : Sx W C Γ} {E : Value→Shared→Prop} : OutE S E No:=fun _ _ _ _ h=>h.elim
noncomputable def PostE (S : Sx W C Γ) (Q : Value→Shared→Prop) (r : R V) : Prop:=Ok r fun v σ'=>∀ cv (S' : Sx W C Γ),Le S S'→S'.σ=σ'→S'.rep cv v→Q cv S'.s
theorem PostE.of {S S' : Sx W C Γ} {Q : Value→Shared→Prop} {K : Kv} {r : R V} (o : OutV S Q K) (l : Le S S') (h : Ok r K) : PostE S' Q r:=by
 cases r with
 | no=>exact h
 | ok v σ'=>exact fun cv S2 l2 e rv=>o v cv S2 (l.trans l2) rv (e ▸ h)
theorem PostE.up {S S' : Sx W C Γ} {Q : Value→Shared→Prop} {r : R V} (h : PostE S Q r) (l : Le S S') : PostE S' Q r:=by
 cases r with
 | no=>exact h
 | ok v σ'=>exact fun cv S2 l2=>h cv S2 (l.trans l2)
theorem PostE.no {S : Sx W C Γ} {Q : Value→Shared→Prop} : ¬ PostE S Q .no:=id
section
variable {S : Sx W C Γ} {Q : Value→Shared→Prop} {v : V} {cv : Value} {tk : Nat} {h' : Heap} {a : Addr} {o : Obj} {c : Cell} {e : Ent}
theorem PostE.now (h : PostE S Q (.ok v S.σ)) (r : S.rep cv v) : Q cv { S.s with toks:=tk }:=h cv (S.to S.G S.σ S.s.heap tk (.refl _) S.X) (S.to_le _ _) rfl r
theorem PostE.now0 (h : PostE S Q (.ok v S.σ)) (r : S.rep cv v) : Q cv S.s:=h cv S (.refl S) rfl r
theorem PostE.kept (h : PostE S Q (.ok v S.σ)) (X : St W S.G S.σ C.L C.Fs h') (r : S.rep cv v) : Q cv { S.s with heap:=h',toks:=tk }:=h cv (S.to S.G S.σ h' tk (.refl _) X) (S.to_le _ _) rfl r
theorem PostE.newI (h : PostE S Q (.ok v S.σ)) (e : S.s.heap.get? a=none) (k : But a S.s.heap h') (e' : h'.get? a=some o) (r : Imm.le S.G.I (S.G.I.add a o)→(S.G.I.add a o) a=some o→RepV W (S.G.I.add a o) S.G.α cv v) : Q cv { S.s with heap:=h',toks:=tk }:=
 E02 (S.X.addI e k e') fun X le=>h cv (S.to _ _ h' tk le X) (S.to_le _ _) rfl (r le.I (if_pos rfl))
theorem PostE.newE (h : PostE S Q (.ok (.l S.σ.length) (S.σ ++ [e]))) (n : S.s.heap.get? a=none) (k : But a S.s.heap h') (q : CellAt W h' a c) (r : EntRel S.G.I (S.G.α ++ [a]) c e) (hw : wfE S.σ.length e) : Q (.ref a) { S.s with heap:=h',toks:=tk }:=
 E02 (S.X.addEnt n k q r hw) fun X le=>h (.ref a) (S.to _ _ h' tk le X) (S.to_le _ _) rfl (.l S.X.α_top)
end
variable (W F)
noncomputable def SndE (e : PySem.Expr) (f : Loc→Store→Ke→Kv→Prop) : Prop:=∀ {C : Cx F} {Γ : Loc} (S : Sx W C Γ) {KE K},f Γ S.σ KE K→∀ {Q E},OutV S Q K→OutE S E KE→wpAny W.m C.A (eval e F.env) Q E S.s
noncomputable def SndT (e : PySem.Expr) (f : Loc→Store→Ke→Kb→Prop) : Prop:=∀ {C : Cx F} {Γ : Loc} (S : Sx W C Γ) {KE K},f Γ S.σ KE K→∀ {Q E},OutB S Q K→OutE S E KE→wpAny W.m C.A (isTrue e F.env (eval e F.env)) Q E S.s
noncomputable def SndR (es : List PySem.Expr) (f : Loc→Store→Ke→(List V→Store→Prop)→Prop) : Prop:=∀ {C : Cx F} {Γ : Loc} (S : Sx W C Γ) {KE K} {pos : Pos},f Γ S.σ KE K→∀ {Q E},OutR S Q K→OutE S E KE→wpAny W.m C.A (spliced (backTo pos (starEach es F.env))) Q E S.s
noncomputable def isComp (x : X) : Bool:=x.ctorIdx == 26 || x.ctorIdx == 27
noncomputable def isTup (x : X) : Bool:=x.ctorIdx == 4
variable {F} in
structure Syn (x : X) (e : PySem.Expr) : Prop where
 st : ∀ rest,starEach (e :: rest) F.env=(false,eval e F.env) :: starEach rest F.env
 sl : ∀ o i,subscripted e false o i=operate [o,i] (getItem o i)
 ab : ∀ attr whole,attributeBase e attr F.env whole=whole
 fo : ∀ v,foldedSetIterable e F.env v=pure v
 sw : isComp x=false→∀ t l,swapsWith e t l F.env=pure false
 tu : isTup x=false→∀ es k p,swappedStores [.Tuple es k p] e F.env=pure none
structure SndX (x : X) (e : PySem.Expr) (w : Wx) : Prop where
 v : SndE W F e w.v
 t : SndT W F e w.t
 y : Syn (F:=F) x e
end
end Mine
namespace Mine
open PySem PySem.W PySem.Calls PyProof.Rows
theorem lim_eq : LIM=sizeLine:=by rw [sizeLine_eq]; rfl
theorem fitDle {xs : List D} (h : fitD xs=true) : xs.length≤LIM:=of_decide_eq_true h
theorem fitSle {xs : List Nat} (h : fitS xs=true) : xs.length≤LIM:=of_decide_eq_true h
theorem bt_el {b : Bool} {P T : Prop} (h : Bt b P) (k : b=true→P→T) : T:=by
 cases b with
 | false=>exact h.elim
 | true=>exact k rfl h
theorem op_el {α : Type} {o : Option α} {K : α→Prop} {T : Prop} (h : Op o K) (k : ∀ a,o=some a→K a→T) : T:=by
 cases o with
 | none=>exact h.elim
 | some a=>exact k a rfl h
theorem push_keeps {h : Heap} (o : Obj) : But h.objs.size h (h.push o):=fun b o' _ e=>Heap.get?_push_of_some _ e
section
variable {W : Wo} {F : Fx} {C : Cx F} {Γ : Loc} {S S' : Sx W C Γ} {Q E : Value→Shared→Prop} {K : Kv} {v : V} {σ : Store} {x : Str} {i n : Nat} {pos : Pos} {cvs : List Value} {es : List PySem.Expr} {e : PySem.Expr} {ds : List D}
theorem OutV.at (o : OutV S Q K) (h : K v σ) : PostE S Q (.ok v σ):=fun cv S' l e r=>o v cv S' l r (e ▸ h)
noncomputable def okStr (l : List Nat) (x : Str) : Bool:=x.cps.toList == l && l.all (· < 128) && decide (l.length≤LIM)
noncomputable def cNo : Const→Bool
 | .none=>true
 | _=>false
noncomputable def cBo (b : Bool) : Const→Bool
 | .bool a=>a == b
 | _=>false
noncomputable def cIn (i : Int) : Const→Bool
 | .int a=>a == i
 | _=>false
noncomputable def cSt (l : List Nat) : Const→Bool
 | .str x=>okStr l x
 | _=>false
noncomputable def constOk (c : Const) (d : D) : Bool:=@D.casesOn (fun _=>Bool) d (cNo c) (fun b=>cBo b c) (fun i=>cIn i c) (fun l=>cSt l c) (fun _=>false) fun _=>false
theorem repStr {I : Imm} {l : List Nat} {t : Tok} (e : okStr l x=true) : RepD I (.str x t) (.str l):=by
 have h:=Bool.and_eq_true_iff.mp e
 have h1:=Bool.and_eq_true_iff.mp h.1
 have e1:=eq_of_beq h1.1
 obtain ⟨⟨q⟩⟩:=x
 exact ⟨t,congrArg (fun z=>Value.str ⟨⟨z⟩⟩ t) e1,fun c hc=>of_decide_eq_true (List.all_eq_true.mp h1.2 c hc),of_decide_eq_true h.2⟩
theorem const_wp {A : Around} {env : Env} {Q E : Value→Shared→Prop} {c : Const} {d : D} {k : Nat} (e : constOk c d=true) (h : PostE S Q (.ok (.d d) S.σ)) : wpAny W.m A (eval (.Constant c k pos) env) Q E S.s:=by
 cases d with
 | none=>cases c <;> first | exact wpAny_Constant_none (h.now0 rfl) | cases e
 | bool b=>cases c <;> first | exact wpAny_Constant_bool (h.now0 (congrArg Value.bool (eq_of_beq e))) | cases e
 | int i=>cases c <;> first | exact wpAny_Constant_int (h.now ⟨_,congrArg (Value.int · _) (eq_of_beq (show (_ == _)=true from e))⟩) | cases e
 | str l=>cases c with
  | str y=>exact wpAny_Constant_str (h.now (.d (repStr e)))
  | _=>cases e
 | _=>cases e
theorem snd_const {c : Const} {d : D} {k : Nat} (e : constOk c d=true) : SndE W F (.Constant c k pos) (fun _ σ _ K=>K (.d d) σ):=fun S KE K h Q E hQ hE=>const_wp e (hQ.at h)
theorem LocAt.name {cv : Value} (hl : LocAt F.env S.G.I S.G.m x cv) (hd : (x == ("__debug__" : Str))=false) (h : Q cv S.s) : wpAny W.m C.A (eval (.Name x pos) F.env) Q E S.s:=by
 refine wpAny_Name ?_ hd
 rcases hl with ⟨hk,hm⟩ | ⟨hk,c,o,hc,ho,hd'⟩
 ·exact wpAny_loadName_local C.e.kind hk (C.e.loc.symm ▸ S.X.ns) hm h
 ·have hcell : S.s.heap.IsCell c (some cv):=⟨o,S.X.inv.imm c o ho,hd'⟩
  rcases hk with hk | ⟨hk,hn⟩
  ·exact wpAny_loadName_cell C.e.kind hk hc hcell h
  ·exact wpAny_loadName_free C.e.kind hk hc hcell h hn
theorem Lk_el {T : Prop} {K : V→Prop} (h : Lk Γ i K) (k : ∀ v,Γ[i]?=some (some v)→K v→T) : T:=op_el h fun o e h=>op_el h fun v e' h=>k v (e'.symm ▸ e) h
theorem snd_name (e : F.vs.lookup x=some i) (hd : (x == ("__debug__" : Str))=false) : SndE W F (.Name x pos) (fun Γ σ _ K=>Lk Γ i fun v=>K v σ):=fun S KE K h Q E hQ hE=>
 Lk_el h fun v hv h=>E12 (S.f x i v e hv) fun cv hl r=>hl.name hd ((hQ.at h).now0 r)
noncomputable def vInt (f : Int→Bool) : Value→Bool
 | .int j _=>f j
 | _=>false
noncomputable def vStr (f : Str→Bool) : Value→Bool
 | .str x _=>f x
 | _=>false
noncomputable def vRef (f : Addr→Bool) : Value→Bool
 | .ref a=>f a
 | _=>false
noncomputable def oSq (f : Value→Array Value→Bool) (o : Option Obj) : Bool:=@Option.casesOn _ (fun _=>Bool) o false fun o=>match o.data with
 | .seq items _=>f o.cls items
 | _=>false
noncomputable def hdV (f : Value→List Value→Bool) : List Value→Bool
 | []=>false
 | v :: vs=>f v vs
theorem vInt_el {f : Int→Bool} {v : Value} {T : Value→Prop} (h : vInt f v=true) (k : ∀ j t,f j=true→T (.int j t)) : T v:=by
 cases v <;> first | exact k _ _ h | cases h
theorem vStr_el {f : Str→Bool} {v : Value} {T : Value→Prop} (h : vStr f v=true) (k : ∀ j t,f j=true→T (.str j t)) : T v:=by
 cases v <;> first | exact k _ _ h | cases h
theorem vRef_el {f : Addr→Bool} {v : Value} {T : Value→Prop} (h : vRef f v=true) (k : ∀ a,f a=true→T (.ref a)) : T v:=by
 cases v <;> first | exact k _ h | cases h
theorem oSq_el {f : Value→Array Value→Bool} {o : Option Obj} {T : Prop} (h : oSq f o=true) (k : ∀ ob items n,o=some ob→ob.data=.seq items n→f ob.cls items=true→T) : T:=by
 cases o with
 | none=>cases h
 | some o=>
  obtain ⟨c,d,da,sl⟩:=o
  cases da <;> first | exact k _ _ _ rfl rfl h | cases h
mutual
noncomputable def repOk (K : Frag) : D→Value→Bool
 | .none,v=>v == .none
 | .bool b,v=>v == .bool b
 | .int i,v=>vInt (fun j=>j == i) v
 | .str l,v=>vStr (okStr l) v
 | .tup ds,v=>vRef (fun a=>oSq (fun c items=>c == .type "tuple" && repsOk K ds items.toList && decide (ds.length≤LIM)) (K.lookup a)) v
 | .lst _,_=>false
noncomputable def repsOk (K : Frag) : List D→List Value→Bool
 | [],l=>l.isEmpty
 | d :: ds,l=>hdV (fun v vs=>repOk K d v && repsOk K ds vs) l
end
theorem reps_of {Kf : Frag} {base : Heap} (k : ∀ d∈ds,∀ v,repOk Kf d v=true→RepD base.get? v d) (e : repsOk Kf ds cvs=true) : RepDs base.get? cvs ds:=by
 induction ds generalizing cvs with
 | nil=>exact List.isEmpty_iff.mp e
 | cons d ds ih=>
  cases cvs with
  | nil=>cases e
  | cons v vs=>
   have e:=Bool.and_eq_true_iff.mp (show (repOk Kf d v && repsOk Kf ds vs)=true from e)
   exact .cons (k _ (.head _) v e.1) (ih (fun x hx=>k x (.tail _ hx)) e.2)
theorem rep_of {Kf : Frag} {base : Heap} (x : Kf.In base) : ∀ (d : D) (v : Value),repOk Kf d v=true→RepD base.get? v d:=by
 refine D.ind (P:=fun d=>∀ v,repOk Kf d v=true→RepD base.get? v d) (fun v e=>eq_of_beq e) (fun b v e=>eq_of_beq e) (fun i v e=>vInt_el (T:=fun v=>RepD base.get? v (.int i)) e fun j t e=>⟨t,congrArg (Value.int · t) (eq_of_beq e)⟩) (fun l v e=>vStr_el (T:=fun v=>RepD base.get? v (.str l)) e fun y t e=>repStr e) (fun ds ih v e=>?_) fun ds ih v e=>nomatch e
 exact vRef_el (T:=fun v=>RepD base.get? v (.tup ds)) e fun a e=>oSq_el e fun o items n hl hd e=>by
  have e:=Bool.and_eq_true_iff.mp e
  have e1:=Bool.and_eq_true_iff.mp e.1
  exact .tup (x _ _ hl) (eq_of_beq e1.1) hd (reps_of ih e1.2) (of_decide_eq_true e.2)
theorem wp_global {A : Around} {v : Value} (hx : F.env.kindOf x=some .globalImplicit) (hd : (x == ("__debug__" : Str))=false) (e : nsIn W.K mainGlobals x=some (some v)) (h : Q v S.s) : wpAny W.m A (eval (.Name x pos) F.env) Q E S.s:=
 Name_function_global C.e.kind hx (loadGlobal_global (C.e.glob.symm ▸ W.g.keeps fun b o q=>S.X.base_get q) (mg_of W.kin W.g e) h) hd
theorem wp_builtin {v : Value} (hx : F.env.kindOf x=some .globalImplicit) (hd : (x == ("__debug__" : Str))=false) (e : nsIn W.K mainGlobals x=some none) (hn : x ≠ "__name__") (hb : bootBuiltins x=some v) (h : Q v S.s) : wpAny W.m C.A (eval (.Name x pos) F.env) Q E S.s:=
 Name_function_global C.e.kind hx (loadGlobal_builtin (C.e.glob.symm ▸ W.g.keeps fun b o q=>S.X.base_get q) (mg_none_of W.kin W.g e) (C.e.bi.symm ▸ W.b.keeps fun b o q=>S.X.base_get q) ((W.boot x hn).trans hb) h) hd
noncomputable def gname (g : Gn) : Str:=@Gn.casesOn (fun _=>Str) g "INT_KINDS" "KEYWORDS" "SIGNS" "FIGURES" "NAME_BEGINS" "NAME_SIGNS" "BLANKS" "MOST_FIGURES" "PATH_WORDS"
noncomputable def ns2 (o : Option (Option Value)) (f : Value→Bool) : Bool:=@Option.casesOn _ (fun _=>Bool) o false fun o=>@Option.casesOn _ (fun _=>Bool) o false f
theorem ns2_el {o : Option (Option Value)} {f : Value→Bool} {T : Prop} (h : ns2 o f=true) (k : ∀ v,o=some (some v)→f v=true→T) : T:=by
 cases o with
 | none=>cases h
 | some o=>cases o with
  | none=>cases h
  | some v=>exact k v rfl h
noncomputable def okG (K : Frag) (g : Gn) : Bool:=ns2 (nsIn K mainGlobals (gname g)) (repOk K (gval g))
theorem gname_debug (g : Gn) : (gname g == ("__debug__" : Str))=false:=by cases g <;> decide +kernel
theorem snd_g {g : Gn} (ok : okG W.K g=true) (hx : F.env.kindOf (gname g)=some .globalImplicit) : SndE W F (.Name (gname g) pos) (fun _ σ _ K=>K (.d (gval g)) σ):=fun S KE K h Q E hQ hE=>
 ns2_el ok fun v hv e=>wp_global hx (gname_debug g) hv ((hQ.at h).now0 ((rep_of W.kin _ _ e).mono fun b o q=>S.X.base b o q))
noncomputable def okF1 (K : Frag) (f : Fn) : Bool:=isWm f || ns2 (nsIn K mainGlobals (fnNm f)) (vRef fun _=>true)
theorem getD_all {α : Type} {p : α→Bool} {d : α} (h0 : p d=true) : ∀ {l : List α} {i : Nat},l.all p=true→p (l.getD i d)=true:=fun {l}=>by
 induction l with
 | nil=>exact fun _=>h0
 | cons a l ih=>
  intro i h
  have h:=Bool.and_eq_true_iff.mp (show (p a && l.all p)=true from h)
  cases i with
  | zero=>exact h.1
  | succ i=>exact ih h.2
theorem fnNm_debug (f : Fn) : (fnNm f == ("__debug__" : Str))=false:=nt (getD_all (p:=fun x=>!(x == ("__debug__" : Str))) (d:="x") (l:=fnNms) (i:=f.ctorIdx) (by decide +kernel) (by decide +kernel))
theorem fa_global {Kf : Frag} {f : Fn} (ok : okF1 Kf f=true) (hw : isWm f=false) : nsIn Kf mainGlobals (fnNm f)=some (some (.ref (fa Kf f))):=by
 unfold okF1 at ok
 rw [hw,Bool.false_or] at ok
 refine ns2_el ok fun v e h=>?_
 refine vRef_el (T:=fun v=>nsIn Kf mainGlobals (fnNm f)=some (some v)→nsIn Kf mainGlobals (fnNm f)=some (some (.ref (fa Kf f)))) h (fun a _ e=>?_) e
 unfold fa
 rw [hw,if_neg Bool.false_ne_true,e]; rfl
theorem snd_fn {f : Fn} (ok : okF1 W.K f=true) (hw : isWm f=false) (hx : F.env.kindOf (fnNm f)=some .globalImplicit) : SndE W F (.Name (fnNm f) pos) (fun _ σ _ K=>K (.fn f) σ):=fun S KE K h Q E hQ hE=>wp_global hx (fnNm_debug f) (fa_global ok hw) ((hQ.at h).now0 (.fn hw))
theorem snd_nil : SndR W F [] (fun _ σ _ K=>K [] σ):=fun S KE K pos h Q E hQ hE=>wpAny_items_nil (hQ [] [] S (.refl S) rfl h)
noncomputable def Plain1 (env : Env) (e : PySem.Expr) : Prop:=∀ rest,starEach (e :: rest) env=(false,eval e env) :: starEach rest env
theorem snd_cons {f : Loc→Store→Ke→Kv→Prop} {g : Loc→Store→Ke→(List V→Store→Prop)→Prop} (h1 : SndE W F e f) (h2 : SndR W F es g) (hs : Plain1 F.env e) : SndR W F (e :: es) (fun Γ σ E K=>f Γ σ E fun v σ=>g Γ σ E fun vs σ=>K (v :: vs) σ):=fun S KE K pos h Q E hQ hE=>
 wpAny_items_cons (h1 S h (fun v cv S1 l1 r1 h=>h2 S1 h (fun us cvs S2 l2 r2 h=>hQ _ _ S2 (l1.trans l2) (.cons (l2.rep r1) r2) h) (hE.up l1)) hE) (hs es)
theorem allK_el {I : Imm} {α : List Addr} {us : List V} {P : List D→Prop} {T : Prop} (h : allK us P) (r : RepVs W I α cvs us) (k : ∀ ds,RepDs I cvs ds→P ds→T) : T:=by
 induction us generalizing cvs P T with
 | nil=>exact k [] r h
 | cons u us ih=>
  exact r.el fun v ws e rv rs=>by
   subst e
   cases u with
   | d x=>exact ih h rs fun ds rd h=>k (x :: ds) (.cons rv rd) h
   | _=>exact h.elim
theorem snd_tup {kk : Nat} {g : Loc→Store→Ke→(List V→Store→Prop)→Prop} (h2 : SndR W F es g) : SndE W F (.Tuple es kk pos) (fun Γ σ E K=>g Γ σ E fun vs σ=>allK vs fun ds=>Bt (fitD ds) (K (.d (.tup ds)) σ)):=fun S KE K h Q E hQ hE=>
 PySem.wpAny_Tuple (h2 S h (fun us cvs S1 l1 r1 h=>allK_el h r1 fun ds rd h=>bt_el h fun hf h=>
  ⟨by rw [rd.length,← lim_eq]; exact fitDle hf,((hQ.up l1).at h).newI (get_size _) (push_keeps _) (Heap.get?_push_size _ rfl) fun k e=>.d (.tup (n:=0) e rfl rfl (rd.mono k) (fitDle hf))⟩) hE)
theorem mkLst_el {mu : Bool} {T : Prop} (h : PostE S Q (mkLst mu ds σ)) (k : fitD ds=true→PostE S Q (if mu then .ok (.l σ.length) (σ ++ [.lst ds]) else .ok (.d (.lst ds)) σ)→T) : T:=by
 unfold mkLst at h
 exact if q : fitD ds=true then k q (by rw [if_pos q] at h; exact h) else by rw [if_neg q] at h; exact h.elim
theorem mkLst_wp {mu : Bool} (hd : RepDs S.G.I cvs ds) (h : PostE S Q (mkLst mu ds S.σ)) {tk nn : Nat} {h' : Heap} {a : Addr} (hn : S.s.heap.get? a=none) (k : But a S.s.heap h') (e : h'.get? a=some { cls:=.type "list",data:=.seq cvs.toArray nn }) : Q (.ref a) { S.s with heap:=h',toks:=tk }:=
 mkLst_el h fun hf h=>by
  cases mu with
  | true=>exact h.newE (c:=.lst cvs) hn k ⟨_,e⟩ ⟨cvs,rfl,hd,fitDle hf⟩ wf_lst
  | false=>exact h.newI hn k e fun k e=>.d (.lst e rfl rfl (hd.mono k) (fitDle hf))
theorem snd_lst {mu : Bool} {g : Loc→Store→Ke→(List V→Store→Prop)→Prop} (h2 : SndR W F es g) : SndE W F (.List es pos) (fun Γ σ E K=>g Γ σ E fun vs σ=>allK vs fun ds=>Ok (mkLst mu ds σ) K):=fun S KE K h Q E hQ hE=>
 PySem.wpAny_List (h2 S h (fun us cvs S1 l1 r1 h=>allK_el h r1 fun ds rd h=>
  have h:=PostE.of hQ l1 h
  ⟨mkLst_el h fun hf _=>by rw [rd.length,← lim_eq]; exact fitDle hf,mkLst_wp rd h (nn:=0) (get_size _) (push_keeps _) (Heap.get?_push_size _ rfl)⟩) hE)
end
end Mine
namespace Mine
open PySem PySem.W PySem.Calls PyProof.Rows
section
variable {W : Wo} {F : Fx} {C : Cx F} {Γ : Loc} {S S' : Sx W C Γ} {Q E : Value→Shared→Prop} {K : Kv} {v : V} {σ : Store} {i n : Nat} {pos : Pos} {a b cv cu : Value} {va vb : V} {x y d : D} {ds : List D} {l : List Nat} {I : Imm} {T : Prop} {o : Obj} {tk : Nat} {h' : Heap}
theorem str_app (a b : List Nat) : ((⟨a.toArray⟩ : Str) ++ (⟨b.toArray⟩ : Str))=⟨(a ++ b).toArray⟩:=by
 show Str.append _ _=_
 unfold Str.append
 rw [List.append_toArray]
theorem tup_at {h : Heap} (k : ∀ b o,I b=some o→h.get? b=some o) {T : Value→Prop} (r : RepD I cv (.tup ds)) (q : ∀ a cvs,IsTup h a cvs.toArray→RepDs I cvs ds→ds.length≤LIM→T (.ref a)) : T cv:=
 Sq.el r fun a o vs n e c d r=>q a vs ⟨_,k _ _ e,c,_,d⟩ r.1 r.2
theorem lst_at {h : Heap} (k : ∀ b o,I b=some o→h.get? b=some o) {T : Value→Prop} (r : RepD I cv (.lst ds)) (q : ∀ a cvs,h.IsList a cvs.toArray→RepDs I cvs ds→ds.length≤LIM→T (.ref a)) : T cv:=
 Sq.el r fun a o vs n e c d r=>q a vs ⟨_,k _ _ e,c,_,d⟩ r.1 r.2
theorem PostE.backI (h : PostE S Q (.ok v S.σ)) (F' : Fr W.base C.L h' S.G.m) (N' : News W.base C.L h' ((S.s.heap.objs.size,o) :: allNews W.base S.s.heap C.L))
  (r : Imm.le S.G.I (S.G.I.add S.s.heap.objs.size o)→(S.G.I.add S.s.heap.objs.size o) S.s.heap.objs.size=some o→RepV W (S.G.I.add S.s.heap.objs.size o) S.G.α cv v) : Q cv { S.s with heap:=h',toks:=tk }:=
 E02 ((S.X.back F' N' fun p hp=>.tail _ hp).freezeI (N' _ (.head _)).1 (S.X.inv.fresh (get_size S.s.heap))) fun X le=>h cv (S.to _ _ h' tk le X) (S.to_le _ _) rfl (r le.I (if_pos rfl))
noncomputable def opOf : Bop→Operator
 | .add=>.Add | .sub=>.Sub | .mul=>.Mult | .mod=>.Mod | .fdiv=>.FloorDiv | .pow=>.Pow
theorem bits_le {x : Int} {k : Nat} (h : x.natAbs < 2 ^ k) : Builtin.Int.intBits x≤k:=by
 unfold Builtin.Int.intBits
 split
 ·exact Nat.zero_le _
 ·rename_i hx
  exact (Nat.log2_lt fun e=>hx (beq_iff_eq.mpr (Int.natAbs_eq_zero.mp e))).mpr h
theorem vD_el {f : D→R V} (h : PostE S Q (vD f v)) (r : S.rep cv v) (k : ∀ x,RepD S.G.I cv x→PostE S Q (f x)→T) : T:=by
 induction v with
 | d x=>exact k x r h
 | _=>exact h.elim
theorem dI_el {f : Int→R V} {T : Value→Prop} (h : PostE S Q (dI f x)) (r : RepD I cv x) (k : ∀ i t,PostE S Q (f i)→T (.int i t)) : T cv:=by
 cases x with
 | int i=>exact r.int_el fun t=>k i t h
 | _=>exact h.elim
theorem dS_el {f : List Nat→R V} {T : Value→Prop} (h : PostE S Q (dS f x)) (r : RepD I cv x) (k : ∀ l t,(∀ c∈l,c < 128)→l.length≤LIM→PostE S Q (f l)→T (.str ⟨l.toArray⟩ t)) : T cv:=by
 cases x with
 | str l=>exact r.str_el fun t h1 h2=>k l t h1 h2 h
 | _=>exact h.elim
theorem dT_el {f : List D→R V} (h : PostE S Q (dT f x)) (r : RepD I cv x) (k : ∀ l,RepD I cv (.tup l)→PostE S Q (f l)→T) : T:=by
 cases x with
 | tup l=>exact k l r h
 | _=>exact h.elim
theorem dL_el {f : List D→R V} (h : PostE S Q (dL f x)) (r : RepD I cv x) (k : ∀ l,RepD I cv (.lst l)→PostE S Q (f l)→T) : T:=by
 cases x with
 | lst l=>exact k l r h
 | _=>exact h.elim
theorem ite_el {b : Bool} {u : R V} (h : PostE S Q (if b then u else .no)) (k : b=true→PostE S Q u→T) : T:=by
 cases b with
 | true=>exact k rfl h
 | false=>exact h.elim
theorem two_ints {f : Int→Int→R V} {T : Value→Value→Prop} (h : PostE S Q (dI (fun a=>dI (f a) y) x)) (r : RepD I cv x) (r2 : RepD I cu y) (k : ∀ i j t u,PostE S Q (f i j)→T (.int i t) (.int j u)) : T cv cu:=
 dI_el (T:=fun c=>T c cu) h r fun i t h=>dI_el (T:=fun c=>T (.int i t) c) h r2 fun j u h=>k i j t u h
theorem sum_fit {xs ys : List Value} {l m : List D} {I : Imm} (rx : RepDs I xs l) (ry : RepDs I ys m) (hf : (l ++ m).length≤LIM) : xs.length + ys.length≤sizeLine:=by
 rw [rx.length,ry.length,← lim_eq,← List.length_append]; exact hf
theorem addi_wp (ra : RepD S.G.I a x) (rb : RepD S.G.I b y) (h : PostE S Q (addD S.σ x y)) : wpAny W.m C.A (binaryOp .Add a b) Q E S.s:=by
 have im:=S.X.inv.imm
 cases x with
 | int i=>
  exact ra.int_el (T:=fun a=>wpAny W.m C.A (binaryOp .Add a b) Q E S.s) fun t=>dI_el (T:=fun b=>wpAny W.m C.A (binaryOp .Add _ b) Q E S.s) h rb fun j u h=>PyProof.Rows.add_int (h.now (.d (.int _ _)))
 | str l=>
  refine ra.str_el (T:=fun a=>wpAny W.m C.A (binaryOp .Add a b) Q E S.s) fun t h1 h2=>dS_el (T:=fun b=>wpAny W.m C.A (binaryOp .Add _ b) Q E S.s) h rb fun j u h3 h4 h=>ite_el h fun hf h=>?_
  have hf:=fitSle hf
  refine PyProof.Rows.add_str (fun t' tk=>?_) ?_
  ·rw [str_app]
   exact h.now (.d (.str _ _ (fun c hc=>(List.mem_append.mp hc).elim (h1 c) (h3 c)) hf))
  ·rw [List.length_append] at hf
   exact Nat.le_trans hf (Nat.le_of_eq lim_eq)
 | tup l=>
  refine dT_el h rb fun m rb h=>ite_el h fun hf h=>?_
  have hf:=fitDle hf
  refine tup_at im (T:=fun a=>RepD S.G.I a (.tup l)→wpAny W.m C.A (binaryOp .Add a b) Q E S.s) ra (fun a' xs hx rx _ ra=>?_) ra
  refine tup_at im (T:=fun b=>RepD S.G.I b (.tup m)→wpAny W.m C.A (binaryOp .Add (.ref a') b) Q E S.s) rb (fun b' ys hy ry _ rb=>?_) rb
  refine add_tuples S.X.fr S.X.news hx hy (fun e=>?_) (fun _ e=>?_) (fun _ _ h' F' N'=>?_) (sum_fit rx ry hf)
  ·subst e
   rw [List.length_eq_zero_iff.mp rx.length.symm,List.nil_append] at h
   exact h.now0 rb
  ·subst e
   rw [List.length_eq_zero_iff.mp ry.length.symm,List.append_nil] at h
   exact h.now0 ra
  ·exact h.backI F' N' fun k e=>.d (.tup (n:=0) (vs:=xs ++ ys) e rfl rfl ((rx.append ry).mono k) hf)
 | lst l=>
  refine dL_el h rb fun m rb h=>ite_el h fun hf h=>?_
  have hf:=fitDle hf
  refine lst_at im (T:=fun a=>wpAny W.m C.A (binaryOp .Add a b) Q E S.s) ra fun a' xs hx rx _=>lst_at im (T:=fun b=>wpAny W.m C.A (binaryOp .Add (.ref a') b) Q E S.s) rb fun b' ys hy ry _=>?_
  exact add_lists S.X.fr S.X.news hx hy (fun h' F' N'=>h.backI F' N' fun k e=>.d (.lst (n:=0) (vs:=xs ++ ys) e rfl rfl ((rx.append ry).mono k) hf)) (sum_fit rx ry hf)
 | none=>exact h.elim
 | bool _=>exact h.elim
section
variable {x y : Int} {t u : Tok}
theorem mul_wp (hb : (decide (x.natAbs < 1267650600228229401496703205376) && decide (y.natAbs < 1267650600228229401496703205376))=true) (h : PostE S Q (.ok (.d (.int (x * y))) S.σ)) : wpAny W.m C.A (binaryOp .Mult (.int x t) (.int y u)) Q E S.s:=by
 refine PyProof.Rows.mul_int (h.now (.d (.int _ _))) ?_
 unfold IntMulOk
 have b1:=bits_le (k:=100) (of_decide_eq_true (a1 hb))
 have b2:=bits_le (k:=100) (of_decide_eq_true (a2 hb))
 have e : Builtin.Int.intTooBig (↑(Builtin.Int.intBits x) + ↑(Builtin.Int.intBits y))=false:=by
  unfold Builtin.Int.intTooBig
  have : bitsLine=134217728:=rfl
  rw [this]
  exact decide_eq_false (by lia)
 rw [e,Bool.and_false]
 exact Bool.false_ne_true
theorem fdiv_wp (hb : (decide (0 < y) && decide (y < 1000000))=true) (h : PostE S Q (.ok (.d (.int (x / y))) S.σ)) : wpAny W.m C.A (binaryOp .FloorDiv (.int x t) (.int y u)) Q E S.s:=by
 have h1 : 0 < y:=of_decide_eq_true (a1 hb)
 have h2 : y < 1000000:=of_decide_eq_true (a2 hb)
 refine PyProof.Rows.floordiv_int (Int.ne_of_gt h1) ?_ (.inl ?_)
 ·rw [Int.fdiv_eq_ediv_of_nonneg _ (Int.le_of_lt h1)]
  exact h.now (.d (.int _ _))
 ·unfold Builtin.divisionGoesByPylong
  have hy : y.natAbs.log2≤40:=by
   have : y.natAbs < 2 ^ 40:=by lia
   exact Nat.le_of_lt ((Nat.log2_lt (Int.natAbs_ne_zero.mpr (Int.ne_of_gt h1))).mpr this)
  simp only [Bool.and_eq_false_iff,decide_eq_false_iff_not]
  left
  split <;> lia
theorem modi_wp (hb : decide (0 < y)=true) (h : PostE S Q (.ok (.d (.int (x % y))) S.σ)) : wpAny W.m C.A (binaryOp .Mod (.int x t) (.int y u)) Q E S.s:=by
 have hb:=of_decide_eq_true hb
 refine PyProof.Rows.mod_int' (Int.ne_of_gt hb) ?_
 rw [Int.fmod_eq_emod_of_nonneg _ (Int.le_of_lt hb)]
 exact h.now (.d (.int _ _))
theorem powi_wp (hb : (decide (x=10) && decide (y=18))=true) (h : PostE S Q (.ok (.d (.int 1000000000000000000)) S.σ)) : wpAny W.m C.A (binaryOp .Pow (.int x t) (.int y u)) Q E S.s:=by
 rw [of_decide_eq_true (a1 hb),of_decide_eq_true (a2 hb)]
 exact PyProof.Rows.pow_int (by decide) (by decide +kernel) (h.now (.d (.int _ _)))
end
theorem bin_wp {o : Bop} (ra : S.rep a va) (rb : S.rep b vb) (h : PostE S Q (binV S.σ o va vb)) : wpAny W.m C.A (binaryOp (opOf o) a b) Q E S.s:=
 vD_el h ra fun x ra h=>vD_el h rb fun y rb h=>by
  induction o with
  | add=>exact addi_wp ra rb h
  | sub=>exact two_ints (T:=fun a b=>wpAny W.m C.A (binaryOp .Sub a b) Q E S.s) h ra rb fun i j t u h=>PyProof.Rows.sub_int (h.now (.d (.int _ _)))
  | mul=>exact two_ints (T:=fun a b=>wpAny W.m C.A (binaryOp .Mult a b) Q E S.s) h ra rb fun i j t u h=>ite_el h mul_wp
  | mod=>exact two_ints (T:=fun a b=>wpAny W.m C.A (binaryOp .Mod a b) Q E S.s) h ra rb fun i j t u h=>ite_el h modi_wp
  | fdiv=>exact two_ints (T:=fun a b=>wpAny W.m C.A (binaryOp .FloorDiv a b) Q E S.s) h ra rb fun i j t u h=>ite_el h fdiv_wp
  | pow=>exact two_ints (T:=fun a b=>wpAny W.m C.A (binaryOp .Pow a b) Q E S.s) h ra rb fun i j t u h=>ite_el h powi_wp
variable {l r e : PySem.Expr} {f g : Loc→Store→Ke→Kv→Prop} {ft fa fb : Loc→Store→Ke→Kb→Prop}
theorem snd_bin {o : Bop} {op : Operator} (ho : opOf o=op) (h1 : SndE W F l f) (h2 : SndE W F r g) : SndE W F (.BinOp l op r pos) (fun Γ σ E K=>f Γ σ E fun x σ=>g Γ σ E fun y σ=>Ok (binV σ o x y) K):=fun S KE K h Q E hQ hE=>by
 subst ho
 exact wpAny_BinOp (h1 S h (fun v cv S1 l1 r1 h=>h2 S1 h (fun u cu S2 l2 r2 h=>bin_wp (l2.rep r1) r2 (.of hQ (l1.trans l2) h)) (hE.up l1)) hE)
theorem Vd_el {K : D→Prop} (h : Vd v K) (r : S.rep cv v) (k : ∀ x,RepD S.G.I cv x→K x→T) : T:=by
 induction v with
 | d x=>exact k x r h
 | _=>exact h.elim
theorem Di_el {K : Int→Prop} {T : Value→Prop} (h : Di x K) (r : RepD I cv x) (k : ∀ i t,K i→T (.int i t)) : T cv:=by
 cases x with
 | int i=>exact r.int_el fun t=>k i t h
 | _=>exact h.elim
theorem snd_neg (h1 : SndE W F e f) : SndE W F (.UnaryOp .USub e pos) (fun Γ σ E K=>f Γ σ E fun v σ=>Vd v fun d=>Di d fun i=>K (.d (.int (-i))) σ):=fun S KE K h Q E hQ hE=>
 wpAny_UnaryOp (h1 S h (fun v cv S1 l1 r1 h=>Vd_el h r1 fun d rd h=>Di_el (T:=fun v=>wpAny W.m _ (unaryOp .USub v) Q E S1.s) h rd fun i t h=>PyProof.Rows.neg_int (((hQ.up l1).at h).now (.d (.int _ _)))) hE)
theorem truth_wp {α : List Addr} {v : Value} {x : V} {b : Bool} {s : Shared} {Q : Bool→Shared→Prop} (r : RepV W I α v x) (e : truthV x=some b) (h : Q b s) : wpAny W.m C.A (truthy v) Q E s:=by
 cases x with
 | d d=>cases d with
  | bool b'=>cases e; rw [show v=.bool b from r]; exact wpAny_truthy_bool h
  | _=>cases e
 | _=>cases e
theorem snd_not (h1 : SndE W F e f) : SndE W F (.UnaryOp .Not e pos) (fun Γ σ E K=>f Γ σ E fun v σ=>Op (truthV v) fun b=>K (.d (.bool (!b))) σ):=fun S KE K h Q E hQ hE=>
 wpAny_UnaryOp (h1 S h (fun v cv S1 l1 r1 h=>op_el h fun b hb h=>not_value (truth_wp r1 hb (((hQ.up l1).at h).now0 rfl))) hE)
theorem snd_ite {t a b : PySem.Expr} (ht : SndT W F t ft) (ha : SndE W F a f) (hb : SndE W F b g) : SndE W F (.IfExp t a b pos) (fun Γ σ E K=>ft Γ σ E fun c σ=>Br c (f Γ σ E K) (g Γ σ E K)):=fun S KE K h Q E hQ hE=>
 wpAny_IfExp (ht S h (fun c S1 l1 h=>by
  cases c with
  | true=>exact ha S1 h (hQ.up l1) (hE.up l1)
  | false=>exact hb S1 h (hQ.up l1) (hE.up l1)) hE)
theorem OutB.up {Q : Bool→Shared→Prop} {K : Kb} (h : OutB S Q K) (l : Le S S') : OutB S' Q K:=fun b S2 l2=>h b S2 (l.trans l2)
theorem sndT_ite {t a b : PySem.Expr} (ht : SndT W F t ft) (ha : SndT W F a fa) (hb : SndT W F b fb) : SndT W F (.IfExp t a b pos) (fun Γ σ E K=>ft Γ σ E fun c σ=>Br c (fa Γ σ E K) (fb Γ σ E K)):=fun S KE K h Q E hQ hE=>by
 rw [arm_isTrue_IfExp]
 refine wpAny_bind (ht S h (fun c S1 l1 h=>?_) hE)
 cases c with
 | true=>exact ha S1 h (hQ.up l1) (hE.up l1)
 | false=>exact hb S1 h (hQ.up l1) (hE.up l1)
theorem sndT_not (h1 : SndT W F e ft) : SndT W F (.UnaryOp .Not e pos) (fun Γ σ E K=>ft Γ σ E fun b σ=>K (!b) σ):=fun S KE K h Q E hQ hE=>
 wpAny_isTrue_Not (h1 S h (fun c S1 l1 h=>hQ _ S1 l1 h) hE)
theorem SndX.of {x : X} (h1 : SndE W F e f) (hp : ∀ whole,PySem.isTrue e F.env whole=(do let v ← whole; standAt e.pos; holding [v] (truthy v))) (y : Syn (F:=F) x e) : SndX W F x e (.of f) where
 v:=h1
 t S KE K h Q E hQ hE:=wpAny_isTrue_value (h1 S h (fun v cv S1 l1 r1 h=>op_el h fun b hb h=>truth_wp r1 hb (hQ _ S1 l1 h)) hE) (hp _)
 y:=y
noncomputable def boOf (isAnd : Bool) : BoolOp:=if isAnd then .And else .Or
variable (W F) in
noncomputable def SndB (o : Bool) (es : List PySem.Expr) (f : Loc→Store→Ke→Kv→Prop) : Prop:=∀ {C : Cx F} {Γ : Loc} (S : Sx W C Γ) {KE K pos},f Γ S.σ KE K→∀ {Q E},OutV S Q K→OutE S E KE→wpAny W.m C.A (boolOp pos (boOf o) (evalEach es F.env)) Q E S.s
variable (W F) in
noncomputable def SndBT (o : Bool) (es : List PySem.Expr) (f : Loc→Store→Ke→Kb→Prop) : Prop:=∀ {C : Cx F} {Γ : Loc} (S : Sx W C Γ) {KE K},f Γ S.σ KE K→∀ {Q E},OutB S Q K→OutE S E KE→wpAny W.m C.A (allTrue (boOf o) es F.env) Q E S.s
variable {o : Bool} {es : List PySem.Expr} {e2 : PySem.Expr} {w w2 : Wx} {ws : List Wx}
theorem sndB_cons (h1 : SndE W F e w.v) (h2 : SndB W F o (e2 :: es) (wRowB o (w2 :: ws))) : SndB W F o (e :: e2 :: es) (wRowB o (w :: w2 :: ws)):=fun S KE K pos h Q E hQ hE=>by
 show wpAny _ _ (do
  let v ← eval e F.env
  standAt pos
  let t ← holding [v] (truthy v)
  match boOf o,t with
  | .And,false | .Or,true=>pure v
  | _,_=>boolOp pos (boOf o) (evalEach (e2 :: es) F.env)) Q E S.s
 refine wpAny_bind (h1 S h (fun v cv S1 l1 r1 h=>op_el h fun b hb h=>wpAny_bind (wpAny_standAt (wpAny_bind (wpAny_holding (truth_wp r1 hb ?_))))) hE)
 cases o <;> cases b <;> first | exact h2 S1 h (hQ.up l1) (hE.up l1) | exact wpAny_pure (((hQ.up l1).at h).now0 r1)
theorem sndBT_cons (h1 : SndT W F e w.t) (h2 : SndBT W F o es (wRowT o ws)) : SndBT W F o (e :: es) (wRowT o (w :: ws)):=fun S KE K h Q E hQ hE=>by
 cases o
 ·refine wpAny_allTrue_Or_cons (h1 S h (fun b S1 l1 h=>?_) hE)
  cases b
  ·exact h2 S1 h (hQ.up l1) (hE.up l1)
  ·exact hQ _ S1 l1 h
 ·refine wpAny_allTrue_And_cons (h1 S h (fun b S1 l1 h=>?_) hE)
  cases b
  ·exact hQ _ S1 l1 h
  ·exact h2 S1 h (hQ.up l1) (hE.up l1)
theorem sndBT_nil : SndBT W F o [] (wRowT o []):=fun S KE K h Q E hQ hE=>by
 cases o
 ·exact wpAny_allTrue_Or_nil (hQ _ S (.refl S) h)
 ·exact wpAny_allTrue_And_nil (hQ _ S (.refl S) h)
theorem snd_bop (h1 : SndB W F o es f) : SndE W F (.BoolOp (boOf o) es pos) f:=fun S _ _ h _ _ hQ hE=>h1 S h hQ hE
theorem sndT_bop (h2 : SndBT W F o es ft) : SndT W F (.BoolOp (boOf o) es pos) ft:=fun S _ _ h _ _ hQ hE=>wpAny_isTrue_BoolOp (h2 S h hQ hE)
end
end Mine
namespace Mine
open PySem PySem.W PySem.Calls PyProof.Rows
inductive SeqV (h : Heap) (I : Imm) : Value→D→Prop
 | str {l : List Nat} {t : Tok} : (∀ c∈l,c < 128)→l.length≤LIM→SeqV h I (.str ⟨l.toArray⟩ t) (.str l)
 | tup {a : Addr} {cvs : List Value} {ds : List D} : IsTup h a cvs.toArray→RepDs I cvs ds→ds.length≤LIM→SeqV h I (.ref a) (.tup ds)
 | lst {a : Addr} {cvs : List Value} {ds : List D} : h.IsList a cvs.toArray→RepDs I cvs ds→ds.length≤LIM→SeqV h I (.ref a) (.lst ds)
noncomputable def isSeqD (d : D) : Bool:=@D.casesOn (fun _=>Bool) d false (fun _=>false) (fun _=>false) (fun _=>true) (fun _=>true) fun _=>true
noncomputable def copOf : Cop→CmpOp
 | .eq=>.Eq | .ne=>.NotEq | .lt=>.Lt | .gt=>.Gt | .ge=>.GtE | .is=>.Is | .isNot=>.IsNot | .isIn=>.In | .notIn=>.NotIn
section
variable {W : Wo} {F : Fx} {C : Cx F} {Γ : Loc} {S : Sx W C Γ} {Q E : Value→Shared→Prop} {σ : Store} {i n : Nat} {pos : Pos} {a b v : Value} {va vb x : V} {d y z : D} {ds : List D} {l : List Nat} {T : Prop} {r : Bool}
theorem resl_el {T : D→Prop} (e : resD σ (.l i)=some d) (k : ∀ xs,σ[i]?=some (.lst xs)→T (.lst xs)) : T d:=by
 rw [resD.eq_def] at e; dsimp only at e
 cases q : σ[i]? with
 | none=>rw [q] at e; cases e
 | some en=>
  rw [q] at e
  cases en with
  | lst xs=>exact Option.some.inj e ▸ k xs q
  | wd=>cases e
theorem res_el {T : Value→D→Prop} (r : S.rep v x) (e : resD S.σ x=some d) (kd : RepD S.G.I v d→T v d)
  (kl : ∀ a n cvs xs,S.s.heap.get? a=some { cls:=.type "list",dict:=none,data:=.seq (List.toArray cvs) n,slots:=#[] }→RepDs S.G.I cvs xs→xs.length≤LIM→T (.ref a) (.lst xs)) : T v d:=by
 cases x with
 | d x=>cases e; exact kd r
 | l i=>
  exact resl_el e fun xs hx=>E12 r fun a ea ha=>S.X.el hx fun a' c h1 h2 er ca=>E13 er fun cvs ec rs hl=>by
   subst ec; subst ea
   rw [ha] at h2; cases h2
   exact E11 ca fun nn ho=>kl a nn cvs xs ho rs hl
 | _=>cases e
theorem res_reads (r : S.rep v x) (e : resD S.σ x=some d) : (∃ as,Reads S.s.heap v (toP d) as)∧(toP d).canLay0=true:=
 res_el (T:=fun v d=>(∃ as,Reads S.s.heap v (toP d) as)∧(toP d).canLay0=true) r e (fun r=>⟨r.reads S.X.inv.imm,r.lay⟩) fun a _ _ _ ho rs _=>⟨E11 (rs.reads S.X.inv.imm) fun as q=>⟨a :: as,.list ho rfl rfl q⟩,rs.lay⟩
theorem seq_d {h : Heap} {I : Imm} (k : ∀ b o,I b=some o→h.get? b=some o) (r : RepD I v d) (hs : isSeqD d=true) : SeqV h I v d:=by
 cases d with
 | str l=>exact r.str_el (T:=fun v=>SeqV h I v (.str l)) fun t h1 h2=>.str h1 h2
 | tup xs=>exact tup_at k (T:=fun v=>SeqV h I v (.tup xs)) r fun a cvs e r l=>.tup e r l
 | lst xs=>exact lst_at k (T:=fun v=>SeqV h I v (.lst xs)) r fun a cvs e r l=>.lst e r l
 | _=>cases hs
theorem res_seq (r : S.rep v x) (e : resD S.σ x=some d) (hs : isSeqD d=true) : SeqV S.s.heap S.G.I v d:=
 res_el (T:=fun v d=>isSeqD d=true→SeqV S.s.heap S.G.I v d) r e (fun r hs=>seq_d S.X.inv.imm r hs) (fun a _ _ _ ho rs hl _=>.lst ⟨_,ho,rfl,_,rfl⟩ rs hl) hs
theorem toPs_any (x : D) (ds : List D) : ((toPs ds).any fun y=>PyData.eqv y (toP x))=D.isIn x ds:=by
 induction ds with
 | nil=>rfl
 | cons y r ih=>exact congr (congrArg or (toP_eqv y x)) ih
theorem flat_depth (h : flatD z=true) : (toP z).depth=0:=by
 cases z <;> first | rfl | cases h
theorem Cx.u : C.A.units + 200 < cLine:=Nat.lt_of_le_of_lt (Nat.add_le_add (Nat.le_add_right _ _) (by decide)) C.r.units
theorem tupIn_wp (neg : Bool) (ra : RepD S.G.I a z) (rb : RepD S.G.I b (.tup ds)) (e : inT z ds=some r) (h : Q (.bool (neg != r)) S.s) : wpAny W.m C.A (compareOp (if neg then .NotIn else .In) a b) Q E S.s:=by
 cases hf : flatD z with
 | false=>rw [inT,hf] at e; cases e
 | true=>
  rw [inT,hf] at e
  refine E11 (rb.reads S.X.inv.imm) fun as rc=>E11 (ra.reads S.X.inv.imm) fun bs rx=>?_
  have hl : PyData.canLayAll0 (toPs ds)=true:=rb.lay
  have hu' : C.A.units + 1 + min (PyData.depthAll (toPs ds)) (toP z).depth < cLine:=by rw [flat_depth hf,Nat.min_zero]; exact Nat.lt_of_le_of_lt (Nat.add_le_add_left (by decide : 1≤200) _) C.u
  have hr : ((toPs ds).any fun y=>PyData.eqv y (toP z))=r:=(toPs_any z ds).trans (Option.some.inj e)
  cases neg with
  | false=>exact SeqAt.in_tuple_reads rc rx hl ra.lay hu' (by rw [hr]; cases r <;> exact h)
  | true=>exact SeqAt.notIn_tuple_reads rc rx hl ra.lay hu' (by rw [hr]; cases r <;> exact h)
theorem isIn_wp (ra : RepD S.G.I a z) (rb : RepD S.G.I b y) (e : isInV z y=some r) (h : Q (.bool r) S.s) : wpAny W.m C.A (compareOp .In a b) Q E S.s:=by
 cases y with
 | tup ds=>exact tupIn_wp false ra rb e (by cases r <;> exact h)
 | str l=>
  cases z with
  | str c=>
   match c,e with
   | [c],e=>
    refine ra.str_el (T:=fun a=>wpAny W.m C.A (compareOp .In a b) Q E S.s) fun t _ _=>rb.str_el (T:=fun b=>wpAny W.m C.A (compareOp .In _ b) Q E S.s) fun u _ _=>PyProof.Rows.in_str ?_
    rw [StrLaws.found_one]
    have : decide (c∈(⟨l.toArray⟩ : Str).cps.toList)=l.contains c:=by simp
    rw [this,Option.some.inj e]
    exact h
  | _=>cases e
 | _=>cases e
theorem none_iff {I : Imm} (r : RepD I a z) : (a == Value.none)=isNo z:=by
 cases z with
 | none=>rw [show a=.none from r]; rfl
 | bool b=>rw [show a=.bool b from r]; rfl
 | int i=>exact r.int_el (T:=fun a=>(a == Value.none)=false) fun _=>rfl
 | str l=>exact r.str_el (T:=fun a=>(a == Value.none)=false) fun _ _ _=>rfl
 | tup xs=>exact Sq.el (T:=fun a=>(a == Value.none)=false) r fun _ _ _ _ _ _ _ _=>rfl
 | lst xs=>exact Sq.el (T:=fun a=>(a == Value.none)=false) r fun _ _ _ _ _ _ _ _=>rfl
theorem true_iff {I : Imm} (r : RepD I a z) : (a == Value.bool true)=isTr z∧plainIs a (.bool true)=true:=by
 cases z with
 | none=>rw [show a=.none from r]; exact ⟨rfl,rfl⟩
 | bool b=>rw [show a=.bool b from r]; cases b <;> exact ⟨rfl,rfl⟩
 | int i=>exact r.int_el (T:=fun a=>(a == Value.bool true)=false∧plainIs a (.bool true)=true) fun _=>⟨rfl,rfl⟩
 | str l=>exact r.str_el (T:=fun a=>(a == Value.bool true)=false∧plainIs a (.bool true)=true) fun _ _ _=>⟨rfl,rfl⟩
 | tup xs=>exact Sq.el (T:=fun a=>(a == Value.bool true)=false∧plainIs a (.bool true)=true) r fun _ _ _ _ _ _ _ _=>⟨rfl,rfl⟩
 | lst xs=>exact Sq.el (T:=fun a=>(a == Value.bool true)=false∧plainIs a (.bool true)=true) r fun _ _ _ _ _ _ _ _=>⟨rfl,rfl⟩
section
variable {f : D→Option Bool}
theorem oD_el (e : oD f va=some r) (rv : S.rep a va) (k : ∀ x,RepD S.G.I a x→f x=some r→T) : T:=by
 cases va with
 | d x=>exact k x rv e
 | _=>cases e
theorem oI_el {I : Imm} {f : Int→Option Bool} {T : Value→Prop} (e : oI f z=some r) (rd : RepD I a z) (k : ∀ i t,f i=some r→T (.int i t)) : T a:=by
 cases z with
 | int i=>exact rd.int_el fun t=>k i t e
 | _=>cases e
theorem i2_el {f : Int→Int→Bool} {T : Value→Value→Bool→Prop} (e : i2 f va vb=some r) (ra : S.rep a va) (rb : S.rep b vb) (k : ∀ x y t u,T (.int x t) (.int y u) (f x y)) : T a b r:=
 oD_el e ra fun _ rx e=>oD_el e rb fun _ ry e=>oI_el (T:=fun a=>T a b r) e rx fun i t e=>oI_el (T:=fun b=>T (.int i t) b r) e ry fun j u e=>Option.some.inj e ▸ k i j t u
theorem oR_el (e : oR σ va f=some r) (k : ∀ x,resD σ va=some x→f x=some r→T) : T:=by
 unfold oR at e
 cases q : resD σ va with
 | none=>rw [q] at e; cases e
 | some x=>rw [q] at e; exact k x q e
end
theorem eq_wp {neg : Bool} (ra : S.rep a va) (rb : S.rep b vb) (e : (oR S.σ va fun x=>oR S.σ vb fun y=>if eqOk x y then some (if neg then !D.eq x y else D.eq x y) else none)=some r) (h : Q (.bool r) S.s) : wpAny W.m C.A (compareOp (if neg then .NotEq else .Eq) a b) Q E S.s:=
 oR_el e fun x hx e=>oR_el e fun y hy e=>by
  cases hk : eqOk x y with
  | false=>rw [hk] at e; cases e
  | true=>
   rw [hk] at e
   refine E02 (res_reads ra hx) fun q1 l1=>E11 q1 fun as q1=>E02 (res_reads rb hy) fun q2 l2=>E11 q2 fun bs q2=>?_
   have hd : C.A.units + min (toP x).depth (toP y).depth < cLine:=by
    rw [toP_depth,toP_depth]
    exact Nat.lt_of_le_of_lt (Nat.add_le_add_left (Nat.le_trans (of_decide_eq_true hk : min x.dep y.dep≤64) (by decide)) _) C.u
   cases neg with
   | false=>exact SeqAt.compareEq_reads q1 q2 l1 l2 hd (by rw [toP_eqv,show D.eq x y=r from Option.some.inj e]; exact h)
   | true=>exact SeqAt.compareNe_reads q1 q2 l1 l2 hd (by rw [toP_eqv,show (!D.eq x y)=r from Option.some.inj e]; exact h)
theorem is_wp (e : oD (isD z) vb=some r) (ra : RepD S.G.I a z) (rb : S.rep b vb) (h : Q (.bool r) S.s) : wpAny W.m C.A (compareOp .Is a b) Q E S.s:=
 oD_el e rb fun y ry e=>by
  cases y with
  | none=>rw [show b=.none from ry]; exact is_none (by rw [none_iff ra,Option.some.inj e]; exact h)
  | _=>cases e
theorem isNot_wp (e : oD (ntD z) vb=some r) (ra : RepD S.G.I a z) (rb : S.rep b vb) (h : Q (.bool r) S.s) : wpAny W.m C.A (compareOp .IsNot a b) Q E S.s:=
 oD_el e rb fun y ry e=>by
  cases y with
  | none=>rw [show b=.none from ry]; exact isNot_none (by rw [none_iff ra,Option.some.inj e]; exact h)
  | bool c=>
   cases c with
   | true=>rw [show b=.bool true from ry]; exact wpAny_isNot_plain (true_iff ra).2 (by rw [(true_iff ra).1,show (!isTr z)=r from Option.some.inj e]; exact h)
   | false=>cases e
  | _=>cases e
theorem inV_wp (e : inV z vb=some r) (ra : RepD S.G.I a z) (rb : S.rep b vb) (h : ∀ tk,Q (.bool r) { S.s with toks:=tk }) : wpAny W.m C.A (compareOp .In a b) Q E S.s:=by
 cases vb with
 | d y=>exact isIn_wp ra rb e (h S.s.toks)
 | dct kvs=>
  cases z with
  | str l=>
   exact ra.str_el (T:=fun a=>wpAny W.m C.A (compareOp .In a b) Q E S.s) fun t _ _=>ImmAt.el (T:=fun b=>wpAny W.m C.A (compareOp .In _ b) Q E S.s) rb fun d o hI hd=>E12 (hd.2.1 S.s.heap (S.X.inv.imm _ _ hI)) fun f hf hk=>
    wpAny_in_of (knd:=PySem.strKind W.prog W.w) (k:=⟨l.toArray⟩) (beq_self_eq_true (⟨l.toArray⟩ : Str)) hd.2.2 hf (by rw [hk,show (kvs.any fun p=>p.1 == l)=r from Option.some.inj e]; exact h (S.s.toks + 1))
  | _=>cases e
 | _=>cases e
theorem notIn_wp (e : oD (ninD z) vb=some r) (ra : RepD S.G.I a z) (rb : S.rep b vb) (h : Q (.bool r) S.s) : wpAny W.m C.A (compareOp .NotIn a b) Q E S.s:=
 oD_el e rb fun y ry e=>by
  cases y with
  | tup ds=>exact E12 (Option.map_eq_some_iff.mp e) fun r' hr q=>tupIn_wp true ra ry hr (by rw [Bool.true_bne,q]; exact h)
  | _=>cases e
theorem cmp_wp {o : Cop} (ra : S.rep a va) (rb : S.rep b vb) (e : cmpV S.σ o va vb=some r) (h : ∀ tk,Q (.bool r) { S.s with toks:=tk }) : wpAny W.m C.A (compareOp (copOf o) a b) Q E S.s:=by
 have h0 : Q (.bool r) S.s:=h S.s.toks
 induction o with
 | eq=>exact eq_wp (neg:=false) ra rb e h0
 | ne=>exact eq_wp (neg:=true) ra rb e h0
 | lt=>exact i2_el (T:=fun a b r=>Q (.bool r) S.s→wpAny W.m C.A (compareOp .Lt a b) Q E S.s) e ra rb (fun _ _ _ _ h=>PyProof.Rows.lt_int h) h0
 | gt=>exact i2_el (T:=fun a b r=>Q (.bool r) S.s→wpAny W.m C.A (compareOp .Gt a b) Q E S.s) e ra rb (fun _ _ _ _ h=>PyProof.Rows.gt_int h) h0
 | ge=>exact i2_el (T:=fun a b r=>Q (.bool r) S.s→wpAny W.m C.A (compareOp .GtE a b) Q E S.s) e ra rb (fun _ _ _ _ h=>PyProof.Rows.ge_int h) h0
 | is=>exact oD_el e ra fun x rx e=>is_wp e rx rb h0
 | isNot=>exact oD_el e ra fun x rx e=>isNot_wp e rx rb h0
 | isIn=>exact oD_el e ra fun x rx e=>inV_wp e rx rb h
 | notIn=>exact oD_el e ra fun x rx e=>notIn_wp e rx rb h0
variable {le re : PySem.Expr} {f g : Loc→Store→Ke→Kv→Prop}
theorem snd_cmp {o : Cop} {op : CmpOp} (ho : copOf o=op) (hb : behindInMarks op re=false) (h1 : SndE W F le f) (h2 : SndE W F re g) :
  SndE W F (.Compare le [op] [re] pos) (fun Γ σ E K=>f Γ σ E fun x σ=>g Γ σ E fun y σ=>Op (cmpV σ o x y) fun r=>K (.d (.bool r)) σ):=fun S KE K h Q E hQ hE=>by
 subst ho
 exact wpAny_Compare1 (h1 S h (fun v cv S1 l1 r1 h=>h2 S1 h (fun u cu S2 l2 r2 h=>op_el h fun b hb h=>cmp_wp (l2.rep r1) r2 hb fun tk=>((hQ.up (l1.trans l2)).at h).now rfl) (hE.up l1)) hE) hb
theorem sndT_cmp {o : Cop} {op : CmpOp} (ho : copOf o=op) (hb : behindInMarks op re=false) (h1 : SndE W F le f) (h2 : SndE W F re g) :
  SndT W F (.Compare le [op] [re] pos) (fun Γ σ E K=>f Γ σ E fun x σ=>g Γ σ E fun y σ=>Op (cmpV σ o x y) fun r=>K r σ):=fun S KE K h Q E hQ hE=>by
 subst ho
 exact wpAny_isTrue_Compare1 (h1 S h (fun v cv S1 l1 r1 h=>h2 S1 h (fun u cu S2 l2 r2 h=>op_el h fun b hb h=>cmp_wp (l2.rep r1) r2 hb fun tk=>wpAny_truthy_bool (hQ b (S2.to S2.G S2.σ S2.s.heap tk (.refl _) S2.X) ((l1.trans l2).trans (S2.to_le _ _)) h)) (hE.up l1)) hE) hb
theorem pyIdx_eq (k : Nat) (i : Int) : seqIndex? i k=pyIdx k i:=by
 unfold seqIndex? pyIdx
 dsimp only
 by_cases h : 0≤i
 ·have hn : ¬ i < 0:=Int.not_lt.mpr h
  by_cases h2 : i < k <;> simp [h,hn,h2]
 ·have hn : i < 0:=Int.not_le.mp h
  have h3 : i + k < k:=by lia
  by_cases h2 : 0≤i + k <;> simp [h,hn,h2,h3]
theorem pyIdx_el {k j : Nat} {i : Int} (e : pyIdx k i=some j) (p : 0≤i→i < k→i.toNat=j→T) (q : i < 0→0≤i + k→(i + k).toNat=j→T) : T:=by
 unfold pyIdx at e
 exact if h : 0≤i then by
  rw [if_pos h] at e
  exact if h2 : i < k then p h h2 (by rw [if_pos h2] at e; exact Option.some.inj e) else by rw [if_neg h2] at e; cases e
 else by
  rw [if_neg h] at e
  exact if h2 : 0≤i + k then q (Int.not_le.mp h) h2 (by rw [if_pos h2] at e; exact Option.some.inj e) else by rw [if_neg h2] at e; cases e
theorem pyIdx_fit {k j : Nat} {i : Int} (hk : k≤LIM) (e : pyIdx k i=some j) : -(2 ^ 63)≤i∧i < 2 ^ 63:=by
 have hk' : (k : Int)≤16777216:=Int.ofNat_le.mpr hk
 exact pyIdx_el e (fun h1 h2 _=>⟨by lia,by lia⟩) fun h1 h2 _=>⟨by lia,by lia⟩
theorem seqV_type {s : Shared} {I : Imm} (r : SeqV s.heap I v d) (k : ∀ T' id,s.TypeIs v T'→typeLookup (.type T') "__getitem__"=pure (some (.builtin id))→T) : T:=by
 induction r with
 | str=>exact k _ _ rfl slot_str_getitem.lookup
 | tup ht=>exact k _ _ ht.typeIs slot_tuple_getitem.lookup
 | lst hl=>exact k _ _ hl.typeIs slot_list_getitem.lookup
theorem opt_el {r : Option D} {σ : Store} (h : PostE S Q (match r with | some x=>.ok (.d x) σ | none=>.no)) (k : ∀ x,r=some x→PostE S Q (.ok (.d x) σ)→T) : T:=by
 cases r with
 | none=>exact h.elim
 | some x=>exact k x rfl h
theorem at_el {k : Nat} {xs : List D} {i : Int} (e : (pyIdx k i).bind (xs[·]?)=some z) (q : ∀ j,pyIdx k i=some j→xs[j]?=some z→T) : T:=E12 (Option.bind_eq_some_iff.mp e) q
theorem getIdx_wp {i : Int} {u : Tok} (r : SeqV S.s.heap S.G.I a d) (h : PostE S Q (idxD S.σ d i)) : wpAny W.m C.A (getItem a (.int i u)) Q E S.s:=by
 induction r with
 | @str l t h1 h2=>
  have h : PostE S Q (match (pyIdx l.length i).bind (l[·]?) with | some c=>.ok (.d (.str [c])) S.σ | none=>.no):=h
  cases hc : (pyIdx l.length i).bind (l[·]?) with
  | none=>rw [hc] at h; exact h.elim
  | some c=>
   rw [hc] at h
   refine E12 (Option.bind_eq_some_iff.mp hc) fun j hj hcj=>PyProof.Rows.getItem_str (c:=c) ?_ ?_ (h.now (.d (.str [c] _ (fun x hx=>by rw [List.mem_singleton.mp hx]; exact h1 c (List.mem_of_getElem? hcj)) (Nat.le_of_ble_eq_true rfl))))
   ·have hf:=pyIdx_fit h2 hj
    exact Bool.or_eq_false_iff.mpr ⟨decide_eq_false (by lia),decide_eq_false (by lia)⟩
   ·show (seqIndex? i l.toArray.size).bind (l.toArray[·]?)=some c
    rw [List.size_toArray,pyIdx_eq]
    simpa using hc
 | tup ht rs hl=>exact opt_el h fun x hx h=>at_el hx fun j hj hxj=>E12 (rs.get hxj) fun v hv rv=>getItem_tuple ht (pyIdx_fit hl hj).1 (pyIdx_fit hl hj).2 (by rw [pyIdx_eq,List.size_toArray,rs.length]; exact hj) ((List.getElem?_toArray ..).trans hv) (h.now0 (.d rv))
 | lst ht rs hl=>
  exact opt_el h fun x hx h=>at_el hx fun j hj hxj=>E12 (rs.get hxj) fun v hv rv=>pyIdx_el hj
   (fun h0 _ e=>wpAny_getItem_list (x:=v) ht h0 (pyIdx_fit hl hj).2 (by rw [e]; exact (List.getElem?_toArray ..).trans hv) (h.now0 (.d rv)))
   fun h0 h1 e=>wpAny_getItem_list_neg (x:=v) ht h0 (by rw [List.size_toArray,rs.length]; lia) (pyIdx_fit hl hj).1 (by rw [List.size_toArray,rs.length,e]; exact (List.getElem?_toArray ..).trans hv) (h.now0 (.d rv))
theorem idxV_el {T : Value→Prop} (rb : S.rep b vb) (h : PostE S Q (idxV σ va vb)) (k : ∀ i d t,resD σ va=some d→isSeqD d=true→PostE S Q (idxD σ d i)→T (.int i t)) : T b:=by
 cases vb with
 | d y=>cases y with
  | int i=>
   refine RepD.int_el (I:=S.G.I) (T:=T) rb fun t=>?_
   have h : PostE S Q (match resD σ va with | some d=>idxD σ d i | none=>.no):=h
   cases e : resD σ va with
   | none=>rw [e] at h; exact h.elim
   | some d=>rw [e] at h; exact k i d t e (by cases d <;> first | rfl | exact h.elim) h
  | _=>exact h.elim
 | _=>exact h.elim
theorem snd_idx (hn : ∀ o i,subscripted re false o i=operate [o,i] (getItem o i)) (h1 : SndE W F le f) (h2 : SndE W F re g) : SndE W F (.Subscript le re pos) (fun Γ σ E K=>f Γ σ E fun x σ=>g Γ σ E fun y σ=>Ok (idxV σ x y) K):=fun S KE K h Q E hQ hE=>
 Subscript_ (h1 S h (fun v cv S1 l1 r1 h=>h2 S1 h (fun u cu S2 l2 r2 h=>idxV_el (T:=fun cu=>wpAny W.m _ (subscriptTail le re cv cu) Q E S2.s) r2 (.of hQ (l1.trans l2) h) fun i d t hd hs h=>
  have hv:=res_seq (l2.rep r1) hd hs
  seqV_type hv fun T' id hT hl=>tail_any hT hl (getIdx_wp hv h) (hn _ _)) (hE.up l1)) hE)
end
end Mine
namespace Mine
open PySem PySem.W PySem.Calls PyProof.Rows
theorem clip_nn (k : Nat) {i : Int} (h : 0≤i) : clipAt k i=min i.toNat k:=(Int.eq_ofNat_of_zero_le h).elim fun a e=>by rw [e]; exact clipAt_nat k a
theorem drop_min {α : Type} {l : List α} {a n : Nat} (h : l.length≤n) : l.drop (min a n)=l.drop a:=by
 rcases Nat.le_total a n with q | q
 ·rw [Nat.min_eq_left q]
 ·rw [Nat.min_eq_right q,List.drop_eq_nil_of_le h,List.drop_eq_nil_of_le (Nat.le_trans h q)]
theorem lo_eq {l : Option Int} (n : Nat) (h0 : 0≤l.getD 0) : l.elim 0 (clipAt n)=min (l.getD 0).toNat n:=by
 cases l with
 | none=>exact (Nat.zero_min _).symm
 | some i=>exact clip_nn _ h0
theorem cut_eq {α : Type} (xs : List α) (l : Option Int) (hi : Option Int) (h0 : 0≤l.getD 0) (h1 : 0≤hi.getD 0) :
  (xs.drop (l.elim 0 (clipAt xs.length))).take (hi.elim xs.length (clipAt xs.length) - l.elim 0 (clipAt xs.length))=cut xs (l.getD 0) hi:=by
 rw [lo_eq _ h0]
 cases hi with
 | none=>exact (List.take_of_length_le (Nat.le_of_eq List.length_drop)).trans (drop_min (Nat.le_refl _))
 | some i=>
  rw [show (some i).elim xs.length (clipAt xs.length)=min i.toNat xs.length from clip_nn _ h1,← List.drop_take,← List.take_eq_take_min]
  exact drop_min (List.length_take_le' _ _)
theorem pick_cut (xs : List Value) (l hi : Option Int) (h0 : 0≤l.getD 0) (h1 : 0≤hi.getD 0) : slicePick xs.toArray l hi none=(cut xs (l.getD 0) hi).toArray:=by
 rw [slicePick_plain,List.size_toArray,cut_eq xs l hi h0 h1]
theorem strIdx_eq (lo hi : Option Int) (k : Nat) : Builtin.Str.strSliceIndices lo hi 1 k=sliceRange (sliceBounds lo hi none k).1 (sliceBounds lo hi none k).2.1 1:=rfl
theorem pickN_cut (xs : List Nat) (l hi : Option Int) (h0 : 0≤l.getD 0) (h1 : 0≤hi.getD 0) : (Builtin.Str.strSliceIndices l hi 1 xs.length).filterMap (xs.toArray[·]?)=cut xs (l.getD 0) hi:=by
 rw [strIdx_eq,sliceBounds_plain,sliceRange_one,pick_run]
 exact cut_eq xs l hi h0 h1
theorem cut_sub {α : Type} (xs : List α) (lo : Int) (hi : Option Int) : (cut xs lo hi).Sublist xs:=by
 cases hi with
 | none=>exact List.drop_sublist _ _
 | some h=>exact (List.drop_sublist _ _).trans (List.take_sublist _ _)
theorem RepDs.cut {I : Imm} {cvs : List Value} {ds : List D} (h : RepDs I cvs ds) (lo : Int) (hi : Option Int) : RepDs I (Mine.cut cvs lo hi) (Mine.cut ds lo hi):=by
 cases hi with
 | none=>exact h.drop _
 | some k=>exact (h.take _).drop _
section
variable {W : Wo} {F : Fx} {C : Cx F} {Γ : Loc} {S : Sx W C Γ} {Q E : Value→Shared→Prop} {σ : Store} {i n : Nat} {p pos : Pos} {a b v : Value} {va vb x y : V} {d z : D} {ds : List D} {T : Prop} {mu : Bool} {l u : Option (Int × Tok)} {h : Heap} {I : Imm} {o : Obj} {tk : Nat}
theorem SeqV.push (r : SeqV h I v d) (o : Obj) : SeqV (h.push o) I v d:=by
 induction r with
 | str a b=>exact .str a b
 | tup ht a b=>exact .tup (ht.keeps fun _ _ e=>Heap.get?_push_of_some _ e) a b
 | lst ht a b=>exact .lst (ht.push _) a b
noncomputable abbrev Sx.junk (S : Sx W C Γ) (o : Obj) (tk : Nat) : Sx W C Γ:=S.to S.G S.σ (S.s.heap.push o) tk (.refl _) (S.X.but (get_size _) (push_keeps o))
theorem PostE.junk {r : R V} (h : PostE S Q r) : PostE (S.junk o tk) Q r:=h.up (S.to_le _ _)
noncomputable abbrev pI (l : Option (Int × Tok)) : Option Int:=l.map (·.1)
theorem cut_all {x : List Nat} (h0 : 0≤(pI l).getD 0) (h1 : 0≤(pI u).getD 0) (h : (slicePicked ⟨x.toArray⟩ l u none).length=x.length) : cut x ((pI l).getD 0) (pI u)=x:=by
 have e : (slicePicked ⟨x.toArray⟩ l u none)=Builtin.Str.strSliceIndices (pI l) (pI u) 1 x.length:=rfl
 have e2:=pickN_cut x _ _ h0 h1
 refine (cut_sub x _ _).eq_of_length (Nat.le_antisymm (cut_sub x _ _).length_le ?_)
 rw [e,strIdx_eq,sliceBounds_plain,sliceRange_one,List.length_map,List.length_range] at h
 rw [← cut_eq x _ _ h0 h1,List.length_take,List.length_drop,h]
 exact Nat.le_min.mpr ⟨Nat.le_refl _,Nat.le_trans (Nat.le_of_eq h.symm) (Nat.sub_le_sub_right (by
  cases u with
  | none=>exact Nat.le_refl _
  | some i=>exact Int.toNat_le.mpr (Int.max_le.mpr ⟨Int.natCast_nonneg _,Int.min_le_right _ _⟩)) _)⟩
theorem getSl_wp {sl : Addr} (r : SeqV S.s.heap S.G.I a d) (hs : S.s.heap.IsSlice sl l u none) (h0 : 0≤(pI l).getD 0) (h1 : 0≤(pI u).getD 0) (h : PostE S Q (slD mu S.σ d ((pI l).getD 0) (pI u))) : wpAny W.m C.A (getItem a (.ref sl)) Q E S.s:=by
 induction r with
 | @str x t h2 h3=>
  have h : PostE S Q (.ok (.d (.str (cut x ((pI l).getD 0) (pI u)))) S.σ):=h
  have hl:=Nat.le_trans (cut_sub x ((pI l).getD 0) (pI u)).length_le h3
  refine wpAny_getItem_str_slice hs rfl ?_
  unfold sliceMade
  split
  ·rename_i hb
   rw [cut_all h0 h1 (eq_of_beq (a2 hb))] at h
   exact h.now0 (.d (.str x t h2 h3))
  ·have e : (slicePicked ⟨x.toArray⟩ l u none).filterMap (x.toArray[·]?)=cut x ((pI l).getD 0) (pI u):=pickN_cut x _ _ h0 h1
   show (List.toArray ((slicePicked ⟨x.toArray⟩ l u none).filterMap (x.toArray[·]?))).size≤sizeLine∧Q (.str ⟨((slicePicked ⟨x.toArray⟩ l u none).filterMap (x.toArray[·]?)).toArray⟩ S.s.toks) { S.s with toks:=S.s.toks + 1 }
   rw [e]
   exact ⟨by rw [List.size_toArray,← lim_eq]; exact hl,h.now (.d (.str _ _ (fun c hc=>h2 c ((cut_sub _ _ _).subset hc)) hl))⟩
 | tup=>exact h.elim
 | @lst a cvs ds hl rs hlen=>
  have hp : ∀ o : Option (Int × Tok),IsPart (partValue o) (o.map (·.1)):=by
   intro o
   cases o with
   | none=>exact .none
   | some p=>exact .int _ _
  refine wpAny_getItem_list_slice (vl:=partValue l) (vu:=partValue u) (vs:=.none) (st:=none) hl hs (hp l) (hp u) .none (by simp) ?_ (by rw [List.size_toArray,rs.length,← lim_eq]; exact hlen)
  rw [pick_cut cvs _ _ h0 h1]
  exact mkLst_wp (rs.cut _ _) h (get_size _) (push_keeps _) (Heap.get?_push_size _ rfl)
theorem slV_el {lo : Int} {hi : Option Int} (h : PostE S Q (slV mu σ va lo hi)) (k : ∀ d,0≤lo→0≤hi.getD 0→resD σ va=some d→isSeqD d=true→PostE S Q (slD mu σ d lo hi)→T) : T:=by
 unfold slV at h
 exact if hb : (decide (0≤lo) && decide (0≤hi.getD 0))=true then by
  rw [if_pos hb] at h
  cases e : resD σ va with
  | none=>rw [e] at h; exact h.elim
  | some d=>rw [e] at h; exact k d (of_decide_eq_true (a1 hb)) (of_decide_eq_true (a2 hb)) e (by cases d <;> first | rfl | exact h.elim) h
 else by rw [if_neg hb] at h; exact h.elim
theorem sl_tail {value : PySem.Expr} {lo up : Option PySem.Expr} (r : S.rep a va) (h : PostE S Q (slV mu S.σ va ((pI l).getD 0) (pI u))) :
  wpAny W.m C.A (subscriptTail value (.Slice lo up none p) a (.ref S.s.heap.objs.size)) Q E { S.s with heap:=S.s.heap.push { cls:=.type "slice",data:=.fields #[partValue l,partValue u,.none] } }:=
 slV_el h fun d h0 h1 hd hs h=>
  have hv:=(res_seq r hd hs).push { cls:=.type "slice",data:=.fields #[partValue l,partValue u,.none] }
  seqV_type (s:=(S.junk { cls:=.type "slice",data:=.fields #[partValue l,partValue u,.none] } S.s.toks).s) hv fun T' id hT hl=>tail_any hT hl (getSl_wp (S:=S.junk _ S.s.toks) hv (l:=l) (u:=u) ⟨_,Heap.get?_push_size _ rfl,rfl,rfl⟩ h0 h1 h.junk) rfl
variable {e le re je : PySem.Expr} {f g q : Loc→Store→Ke→Kv→Prop}
@[elab_as_elim] theorem int_el {K : Int→Prop} {T : Value→Prop} (h : Vd x fun d=>Di d K) (r : S.rep a x) (k : ∀ i t,K i→T (.int i t)) : T a:=Vd_el h r fun d rd h=>Di_el (T:=T) h rd k
theorem snd_slLo (h1 : SndE W F le f) (h2 : SndE W F re g) : SndE W F (.Subscript le (.Slice (some re) none none p) pos) (fun Γ σ E K=>f Γ σ E fun x σ=>g Γ σ E fun y σ=>Vd y fun d=>Di d fun i=>Ok (slV false σ x i none) K):=fun S KE K h Q E hQ hE=>
 Subscript_ (h1 S h (fun v cv S1 l1 r1 h=>wpAny_Slice (by
  rw [evalPart_some]
  exact h2 S1 h (fun u cu S2 l2 r2 h=>int_el h r2 fun i t h=>evalPart_none_step (evalPart_none_step (sl_tail (l:=some (i,t)) (u:=none) (l2.rep r1) (.of hQ (l1.trans l2) h)))) (hE.up l1))) hE)
theorem snd_slHi (h1 : SndE W F le f) (h2 : SndE W F re g) : SndE W F (.Subscript le (.Slice none (some re) none p) pos) (fun Γ σ E K=>f Γ σ E fun x σ=>g Γ σ E fun y σ=>Vd y fun d=>Di d fun i=>Ok (slV mu σ x 0 (some i)) K):=fun S KE K h Q E hQ hE=>
 Subscript_ (h1 S h (fun v cv S1 l1 r1 h=>wpAny_Slice (evalPart_none_step (by
  rw [evalPart_some]
  exact h2 S1 h (fun u cu S2 l2 r2 h=>int_el h r2 fun i t h=>evalPart_none_step (sl_tail (l:=none) (u:=some (i,t)) (l2.rep r1) (.of hQ (l1.trans l2) h))) (hE.up l1)))) hE)
theorem snd_slLH (h1 : SndE W F le f) (h2 : SndE W F re g) (h3 : SndE W F je q) : SndE W F (.Subscript le (.Slice (some re) (some je) none p) pos) (fun Γ σ E K=>f Γ σ E fun x σ=>g Γ σ E fun y σ=>q Γ σ E fun z σ=>Vd y fun d=>Di d fun i=>Vd z fun d=>Di d fun j=>Ok (slT σ x i j) K):=fun S KE K h Q E hQ hE=>
 Subscript_ (h1 S h (fun v cv S1 l1 r1 h=>wpAny_Slice (by
  rw [evalPart_some,evalPart_some]
  exact h2 S1 h (fun u cu S2 l2 r2 h=>h3 S2 h (fun u' cu' S3 l3 r3 h=>int_el h (l3.rep r2) fun i t h=>int_el h r3 fun j t' h=>evalPart_none_step (sl_tail (mu:=false) (l:=some (i,t)) (u:=some (j,t')) (l3.rep (l2.rep r1)) (.of hQ ((l1.trans l2).trans l3) (by unfold slT at h; exact h)))) (hE.up (l1.trans l2))) (hE.up l1))) hE)
theorem sliceApplied_rev {s : Shared} {A : Around} {sl : Addr} {k : Nat} {u : Tok} {Q : Int × Int × Nat→Shared→Prop} (hs : s.heap.IsSliceOf sl .none .none (.int (-1) u)) (h : Q ((k : Int) - 1,-1,k) s) : wpAny W.m A (Builtin.Slice.sliceApplied (.ref sl) (pure (k : Int))) Q E s:=by
 refine E13 (id hs) fun os hos hcs hds=>?_
 unfold Builtin.Slice.sliceApplied Builtin.Slice.sliceFields
 refine wpAny_bind (wpAny_bind (wpAny_field hos hds (x:=.none) rfl (wpAny_bind (wpAny_field hos hds (x:=.none) rfl (wpAny_bind (wpAny_field hos hds (x:=.int (-1) u) rfl (wpAny_pure ?_)))))))
 refine wpAny_bind (slicePart_int ?_)
 show wpAny _ _ (if ((-1 : Int) == 0)=true then _ else _) _ _ s
 rw [if_neg (by decide)]
 refine wpAny_bind (slicePart_none (wpAny_bind (slicePart_none (wpAny_bind (wpAny_pure ?_)))))
 show wpAny _ _ (pure ((k : Int) - 1,(-1 : Int),Builtin.Slice.slicePlaces ((k : Int) - 1) (-1) (-1))) _ _ s
 have e2 : Builtin.Slice.slicePlaces ((k : Int) - 1) (-1) (-1)=k:=by
  unfold Builtin.Slice.slicePlaces
  rw [if_neg (by decide),show (- -1 : Int)=1 from rfl,Int.ediv_one]
  split <;> lia
 rw [e2]
 exact wpAny_pure h
theorem fm_congr {α β : Type} {f g : α→Option β} {l : List α} (h : ∀ k∈l,f k=g k) : l.filterMap f=l.filterMap g:=by
 induction l with
 | nil=>rfl
 | cons a r ih=>rw [List.filterMap_cons,List.filterMap_cons,h a (.head _),ih fun k hk=>h k (.tail _ hk)]
theorem pick_rev (xs : List Value) : ((List.range xs.length).filterMap fun (k : Nat)=>xs.toArray[(((xs.length : Int) - 1) + (k : Int) * -1).toNat]?).toArray=xs.reverse.toArray:=by
 refine congrArg List.toArray ?_
 have key : ∀ k∈List.range xs.length,xs.toArray[(((xs.length : Int) - 1) + (k : Int) * -1).toNat]?=xs.reverse.toArray[k]?:=fun k hk=>by
  have hk:=List.mem_range.mp hk
  rw [show (((xs.length : Int) - 1) + (k : Int) * -1).toNat=xs.length - 1 - k by lia,List.getElem?_toArray,List.getElem?_toArray]
  exact (List.getElem?_reverse hk).symm
 rw [fm_congr key]
 have:=pick_run xs.reverse.toArray 0 xs.length
 rw [show (fun k=>0 + k)=id from funext Nat.zero_add,List.map_id] at this
 exact this.trans (List.take_of_length_le (Nat.le_of_eq List.length_reverse))
theorem getItem_tuple_rev {s : Shared} {A : Around} {t sl : Addr} {xs : List Value} {u : Tok} (ht : IsTup s.heap t xs.toArray) (hs : s.heap.IsSliceOf sl .none .none (.int (-1) u))
  (h : Q (.ref s.heap.objs.size) { s with heap:=s.heap.push { cls:=.type "tuple",data:=.seq xs.reverse.toArray } })
  (hsz : xs.length≤sizeLine) : wpAny W.m A (getItem (.ref t) (.ref sl)) Q E s:=by
 have hrev : sizeOk (.seq xs.reverse.toArray):=by
  show xs.reverse.toArray.size≤sizeLine
  rw [List.size_toArray,List.length_reverse]; exact hsz
 refine E13 (id hs) fun os hos hcs hds=>?_
 have hTs : s.TypeIs (.ref sl) "slice":=⟨os,hos,hcs⟩
 unfold getItem
 refine wpAny_holding ?_
 refine wpAny_bind (wpAny_sequenceKey ht.typeIs (by decide) ?_)
 refine wpAny_bind (wpAny_callSpecial?_slot (name:=Str.ofString "__getitem__") ht.typeIs slot_tuple_getitem
  (wpAny_call_entry slot_tuple_getitem ht.typeIs entry_tuple_getitem ?_ (args_tuple_getitem _ _)))
 show wpAny _ _ (Builtin.Tuple.tupleItemsOf (.ref t) >>= _) _ _ s
 refine wpAny_bind (tupleItemsOf_ ht ?_)
 refine wpAny_bind (wpAny_typeOf hTs ?_)
 rw [if_pos (by decide)]
 refine wpAny_bind (sliceApplied_rev hs ?_)
 have hno : ¬ ((((xs.toArray.size : Int) - 1) == 0 && (-1 : Int) == 1 && xs.toArray.size == xs.toArray.size)=true):=fun q=>
  Bool.noConfusion (a2 (a1 q))
 show wpAny _ _ (if (((xs.toArray.size : Int) - 1) == 0 && (-1 : Int) == 1 && xs.toArray.size == xs.toArray.size)=true then _ else _) _ _ s
 rw [if_neg hno,List.size_toArray,pick_rev xs]
 first
  | exact wpAny_bind (m:=Builtin.Tuple.tupleExact _) (wpAny_newObj_type (wpAny_pure ⟨_,rfl,wpAny_pure h⟩) hrev)
  | exact wpAny_bind (m:=Builtin.Tuple.tupleExact _) (wpAny_newObj_type (wpAny_bind (wpAny_pure (wpAny_pure ⟨_,rfl,wpAny_pure h⟩))) hrev)
  | exact wpAny_bind (wpAny_bind (m:=Builtin.Tuple.tupleExact _) (wpAny_newObj_type (wpAny_pure (wpAny_pure ⟨_,rfl,wpAny_pure h⟩)) hrev))
  | exact wpAny_bind (wpAny_bind (m:=Builtin.Tuple.tupleExact _) (wpAny_newObj_type (wpAny_pure ⟨_,rfl,wpAny_pure h⟩) hrev))
theorem Dt_el {K : List D→Prop} (h : Dt z K) (r : RepD I a z) (k : ∀ l,RepD I a (.tup l)→K l→T) : T:=by
 cases z with
 | tup l=>exact k l r h
 | _=>exact h.elim
theorem snd_rev {kk : Nat} {p2 p3 : Pos} (h1 : SndE W F e f) : SndE W F (.Subscript e (.Slice none none (some (.UnaryOp .USub (.Constant (.int 1) kk p3) p2)) p) pos) (fun Γ σ E K=>f Γ σ E fun x σ=>Vd x fun d=>Dt d fun xs=>K (.d (.tup xs.reverse)) σ):=fun S KE K h Q E hQ hE=>
 Subscript_ (h1 S h (fun v cv S1 l1 r1 h=>wpAny_Slice (evalPart_none_step (evalPart_none_step (by
  rw [evalPart_some]
  refine wpAny_UnaryOp (wpAny_Constant_int (PyProof.Rows.neg_int ?_))
  refine Vd_el h r1 fun d rd h=>Dt_el h rd fun xs rd h=>tup_at S1.X.inv.imm (T:=fun cv=>wpAny W.m _ (subscriptTail e _ cv _) Q E _) rd fun t cvs ht rs hl=>?_
  have ht':=ht.keeps (h':=S1.s.heap.push { cls:=.type "slice",data:=.fields #[.none,.none,.int (-1) (S1.s.toks + 1)] }) fun _ _ e=>Heap.get?_push_of_some _ e
  refine tail_any (s:=(S1.junk { cls:=.type "slice",data:=.fields #[.none,.none,.int (-1) (S1.s.toks + 1)] } (S1.s.toks + 1 + 1)).s) (o:=.ref t) (i:=.ref S1.s.heap.objs.size) (ops:=[.ref t,.ref S1.s.heap.objs.size]) ht'.typeIs slot_tuple_getitem.lookup ?_ rfl
  refine getItem_tuple_rev (s:=(S1.junk { cls:=.type "slice",data:=.fields #[.none,.none,.int (-1) (S1.s.toks + 1)] } (S1.s.toks + 1 + 1)).s) ht' ⟨_,Heap.get?_push_size _ rfl,rfl,rfl⟩ ?_ (by rw [rs.length,← lim_eq]; exact hl)
  exact PostE.newI (S:=S1.junk { cls:=.type "slice",data:=.fields #[.none,.none,.int (-1) (S1.s.toks + 1)] } (S1.s.toks + 1 + 1)) (((hQ.up l1).at h).junk) (get_size _) (push_keeps _) (Heap.get?_push_size _ rfl)
   fun k e=>.d (.tup (n:=0) (vs:=cvs.reverse) e rfl rfl (rs.reverse.mono k) (by rw [List.length_reverse]; exact hl)))))) hE)
end
end Mine
namespace Mine
open PySem PySem.W PySem.Calls PyProof.Rows
theorem int_small {T : Int→Prop} (key : ∀ k : Fin 256,T ((k.val : Int) - 128)) (i : Int) (h0 : -128≤i) (h1 : i≤127) : T i:=by
 have e : (((i + 128).toNat : Nat) : Int) - 128=i:=by lia
 exact e ▸ key ⟨(i + 128).toNat,by lia⟩
theorem intText_ok (i : Int) : -128≤i→i≤127→Str.ofString (toString i)=⟨(intText i).toArray⟩:=int_small (T:=fun i=>Str.ofString (toString i)=⟨(intText i).toArray⟩) (by decide +kernel) i
theorem intText_fit (i : Int) : -128≤i→i≤127→(intText i).all (· < 128)=true∧(intText i).length≤100:=int_small (T:=fun i=>(intText i).all (· < 128)=true∧(intText i).length≤100) (by decide +kernel) i
noncomputable def primVal (p : Prim) : Value:=@Prim.casesOn (fun _=>Value) p (.builtin "len") (.builtin "isinstance") (.builtin "isinstance") (.builtin "isinstance") (.builtin "isinstance") (.type "str") (.type "tuple") (.type "list") (.builtin "min") (.builtin "max") (.type "range")
noncomputable def primNm (p : Prim) : Str:=@Prim.casesOn (fun _=>Str) p "len" "isinstance" "isinstance" "isinstance" "isinstance" "str" "tuple" "list" "min" "max" "range"
noncomputable def isiNm (p : Prim) : Option String:=@Prim.casesOn (fun _=>Option String) p none (some "tuple") (some "str") (some "int") (some "bool") none none none none none none
noncomputable def primMore (p : Prim) : List Value:=match isiNm p with
 | none=>[]
 | some x=>[.type x]
section
variable {W : Wo} {F : Fx} {C : Cx F} {Γ : Loc} {S : Sx W C Γ} {Q E : Value→Shared→Prop} {σ : Store} {n : Nat} {np pq pos : Pos} {cv cu : Value} {cvs : List Value} {v : V} {vs : List V} {x : D} {ds : List D} {T : Prop} {mu : Bool} {tk : Nat} {I : Imm} {b : Bool} {t u : Tok}
theorem withD_el {f : D→R V} (h : PostE S Q (withD σ v f)) (k : ∀ d,resD σ v=some d→PostE S Q (f d)→T) : T:=by
 unfold withD at h
 cases e : resD σ v with
 | none=>rw [e] at h; exact h.elim
 | some d=>rw [e] at h; exact k d e h
theorem SeqV.lst_el {h : Heap} {T : Value→Prop} (r : SeqV h I cv (.lst ds)) (k : ∀ a cvs,h.IsList a cvs.toArray→RepDs I cvs ds→ds.length≤LIM→T (.ref a)) : T cv:=by
 cases r with | lst a b c=>exact k _ _ a b c
theorem SeqV.tup_el {h : Heap} {T : Value→Prop} (r : SeqV h I cv (.tup ds)) (k : ∀ a cvs,IsTup h a cvs.toArray→RepDs I cvs ds→ds.length≤LIM→T (.ref a)) : T cv:=by
 cases r with | tup a b c=>exact k _ _ a b c
theorem isi_p {p : Prim} {y : String} (hp : isiNm p=some y) {T : Prim→Prop} (a : T .isiTuple) (b : T .isiStr) (c : T .isiInt) (d : T .isiBool) : T p:=by
 induction p with
 | isiTuple=>exact a
 | isiStr=>exact b
 | isiInt=>exact c
 | isiBool=>exact d
 | _=>cases hp
noncomputable abbrev cP (W : Wo) (C : Cx F) (S : Sx W C Γ) (Q E : Value→Shared→Prop) (p : Prim) (cvs : List Value) : Prop:=wpAny W.m C.A (call (primVal p) (cvs ++ primMore p)) Q E S.s
theorem isi_wp {p : Prim} {y : String} (hp : isiNm p=some y) (r : RepD S.G.I cv x) (h : PostE S Q (isiV p x S.σ)) : cP W C S Q E p [cv]:=by
 have done : ∀ {b : Bool} {tk : Nat},PostE S Q (.ok (.d (.bool b)) S.σ)→Q (.bool b) { S.s with toks:=tk }:=fun h=>h.now rfl
 revert h
 cases x with
 | none=>
  rw [show cv=.none from r]
  exact isi_p hp (T:=fun p=>PostE S Q (isiV p .none S.σ)→cP W C S Q E p [.none])
   (fun h=>call_isinstance (isinstance_false_none (by decide +kernel) PySem.F.isi_meta_tuple PySem.F.sub_NoneType_tuple) (done h)) (fun h=>call_isinstance (isinstance_false_none (by decide +kernel) PySem.F.isi_meta_str PySem.F.sub_NoneType_str) (done h))
   (fun h=>call_isinstance (isinstance_false_none (by decide +kernel) PySem.F.isi_meta_int PySem.F.sub_NoneType_int) (done h)) (fun h=>call_isinstance (isinstance_false_none (by decide +kernel) PySem.F.isi_meta_bool PySem.F.sub_NoneType_bool) (done h))
 | bool b=>
  rw [show cv=.bool b from r]
  exact isi_p hp (T:=fun p=>PostE S Q (isiV p (.bool b) S.σ)→cP W C S Q E p [.bool b])
   (fun h=>IsiPair.bool_tuple (done h)) (fun h=>IsiPair.bool_str (done h)) (fun h=>IsiPair.bool_int (done (tk:=S.s.toks) h)) (fun h=>IsiPair.bool_bool (done (tk:=S.s.toks) h))
 | int i=>
  exact r.int_el (T:=fun cv=>PostE S Q (isiV p (.int i) S.σ)→cP W C S Q E p [cv]) fun t=>isi_p hp (T:=fun p=>PostE S Q (isiV p (.int i) S.σ)→cP W C S Q E p [.int i t])
   (fun h=>IsiPair.int_tuple (done h)) (fun h=>IsiPair.int_str (done h)) (fun h=>IsiPair.int_int (done (tk:=S.s.toks) h)) (fun h=>IsiPair.int_bool (done h))
 | str l=>
  exact r.str_el (T:=fun cv=>PostE S Q (isiV p (.str l) S.σ)→cP W C S Q E p [cv]) fun t _ _=>isi_p hp (T:=fun p=>PostE S Q (isiV p (.str l) S.σ)→cP W C S Q E p [.str ⟨l.toArray⟩ t])
   (fun h=>IsiPair.str_tuple (done h)) (fun h=>IsiPair.str_str (done (tk:=S.s.toks) h)) (fun h=>IsiPair.str_int (done h)) (fun h=>IsiPair.str_bool (done h))
 | tup ds=>
  exact Sq.el (T:=fun cv=>PostE S Q (isiV p (.tup ds) S.σ)→cP W C S Q E p [cv]) r fun a o vs n e c d rs=>
   have ho : ∃ o,S.s.heap.get? a=some o∧o.cls=.type "tuple":=⟨_,S.X.inv.imm _ _ e,c⟩
   isi_p hp (T:=fun p=>PostE S Q (isiV p (.tup ds) S.σ)→cP W C S Q E p [.ref a])
   (fun h=>call_isinstance (isinstance_true (Tx:="tuple") PySem.F.isi_meta_tuple PySem.F.sub_tuple_tuple) ⟨ho,done (tk:=S.s.toks) h⟩) (fun h=>call_isinstance (isinstance_false_tuple (by decide +kernel) PySem.F.isi_meta_str PySem.F.sub_tuple_str) ⟨ho,done h⟩)
   (fun h=>call_isinstance (isinstance_false_tuple (by decide +kernel) PySem.F.isi_meta_int PySem.F.sub_tuple_int) ⟨ho,done h⟩) (fun h=>call_isinstance (isinstance_false_tuple (by decide +kernel) PySem.F.isi_meta_bool PySem.F.sub_tuple_bool) ⟨ho,done h⟩)
 | lst=>exact fun h=>False.elim h
theorem p1_el {f : V→R V} {T : List Value→Prop} (h : PostE S Q (p1 f vs)) (r : RepVs W S.G.I S.G.α cvs vs) (k : ∀ cv v,S.rep cv v→PostE S Q (f v)→T [cv]) : T cvs:=by
 cases vs with
 | nil=>exact h.elim
 | cons v vs=>
  cases vs with
  | nil=>exact r.el fun cv us e r rs=>by rw [e,show us=[] from rs]; exact k cv v r h
  | cons _ _=>exact h.elim
theorem p2_el {f : V→V→R V} {T : List Value→Prop} (h : PostE S Q (p2 f vs)) (r : RepVs W S.G.I S.G.α cvs vs) (k : ∀ cv v cu u,S.rep cv v→S.rep cu u→PostE S Q (f v u)→T [cv,cu]) : T cvs:=by
 cases vs with
 | nil=>exact h.elim
 | cons v vs=>exact r.el fun cv us e r rs=>e ▸ p1_el (T:=fun l=>T (cv :: l)) h rs fun cu u r2 h=>k cv v cu u r r2 h
theorem p0_el {x : R V} {T : List Value→Prop} (h : PostE S Q (p0 x vs)) (r : RepVs W S.G.I S.G.α cvs vs) (k : PostE S Q x→T []) : T cvs:=by
 cases vs with
 | nil=>exact (show cvs=[] from r) ▸ k h
 | cons _ _=>exact h.elim
theorem len_lim {k : Nat} (hk : k≤LIM) : (k : Int) < 2 ^ 63:=Int.lt_of_le_of_lt (Int.ofNat_le.mpr hk) (by decide)
theorem plen_wp (r : S.rep cv v) (h : PostE S Q (withD S.σ v fun d=>lenD d S.σ)) : cP W C S Q E .len [cv]:=
 withD_el h fun d hd h=>by
  have seq : isSeqD d=true:=by cases d <;> first | rfl | exact h.elim
  have r:=res_seq r hd seq
  induction r with
  | str h1 h2=>exact PyProof.Rows.len_str (Int.not_le.mpr (len_lim h2)) (PostE.now (v:=.d (.int _)) h (.d (.int _ _)))
  | tup ht rs hl=>
   have e:=rs.length
   exact PyProof.Rows.len_tuple ht (by rw [List.size_toArray,e]; exact len_lim hl) (by rw [List.size_toArray,e]; exact PostE.now (v:=.d (.int _)) h (.d (.int _ _)))
  | lst ht rs hl=>
   have e:=rs.length
   exact call_len_list ht (by rw [List.size_toArray,e]; exact len_lim hl) (by rw [List.size_toArray,e]; exact PostE.now (v:=.d (.int _)) h (.d (.int _ _)))
theorem pstr_wp (r : RepD S.G.I cv x) (h : PostE S Q (strD S.σ x)) : cP W C S Q E .str [cv]:=by
 cases x with
 | int i=>
  refine r.int_el (T:=fun cv=>cP W C S Q E .str [cv]) fun t=>ite_el h fun hb h=>?_
  have h0 : -128≤i:=of_decide_eq_true (a1 hb)
  have h1 : i≤127:=of_decide_eq_true (a2 hb)
  refine PySem.P.str_of_int ?_ ?_
  ·have : i.natAbs.log2≤10:=by
    by_cases h0 : i.natAbs=0
    ·rw [h0]; decide
    ·exact Nat.le_of_lt ((Nat.log2_lt h0).mpr (by lia))
   lia
  ·show Q (.str (Str.ofString (toString i)) S.s.toks) _
   rw [intText_ok i h0 h1]
   exact h.now (.d (.str _ _ (fun c hc=>of_decide_eq_true (List.all_eq_true.mp (intText_fit i h0 h1).1 c hc)) (dr (intText_fit i h0 h1).2 rfl)))
 | bool b=>
  rw [show cv=.bool b from r]
  refine PySem.P.str_of_bool ?_
  cases b
  ·exact PostE.now (v:=.d (.str _)) h (.d (repStr (by decide +kernel)))
  ·exact PostE.now (v:=.d (.str _)) h (.d (repStr (by decide +kernel)))
 | _=>exact h.elim
theorem res_tup (e : resD σ v=some (.tup ds)) : v=.d (.tup ds):=by
 cases v with
 | d x=>exact congrArg V.d (Option.some.inj e)
 | l i=>exact resl_el (T:=fun d=>d=.tup ds→V.l i=.d (.tup ds)) e (fun xs _ q=>nomatch q) rfl
 | _=>cases e
theorem ptup_wp (r : S.rep cv v) (h : PostE S Q (withD S.σ v fun d=>tupD d S.σ)) : cP W C S Q E .tuple [cv]:=
 withD_el h fun d hd h=>by
  cases d with
  | tup ds=>
   rw [res_tup hd] at r
   exact tup_at S.X.inv.imm (T:=fun cv=>S.rep cv (.d (.tup ds))→cP W C S Q E .tuple [cv]) r (fun a cvs ht _ _ r=>call_tuple_same ht (PostE.now0 (v:=.d (.tup ds)) h r)) r
  | lst ds=>
   exact (res_seq r hd rfl).lst_el (T:=fun cv=>cP W C S Q E .tuple [cv]) fun a cvs ht rs hl=>call_tuple_list ht (fun h' hk=>by
    have X':=S.X.keeps (h':=h') hk
    exact PostE.newI (S:=S.to S.G S.σ h' S.s.toks (.refl _) X') (PostE.up (r:=.ok (.d (.tup ds)) S.σ) h (S.to_le _ _)) (get_size _) (push_keeps _) (Heap.get?_push_size _ rfl) fun k e=>.d (.tup (n:=0) (vs:=cvs) e rfl rfl (rs.mono k) hl)) (by rw [List.size_toArray,rs.length,← lim_eq]; exact hl)
  | _=>exact h.elim
theorem plst_wp (r : S.rep cv v) (h : PostE S Q (withD S.σ v fun d=>lstD mu d S.σ)) : cP W C S Q E .list [cv]:=
 withD_el h fun d hd h=>by
  cases d with
  | tup ds=>exact (res_seq r hd rfl).tup_el (T:=fun cv=>cP W C S Q E .list [cv]) fun a cvs ht rs hl=>E13 ht fun o ho hc hd=>E11 hd fun nn hdd=>
    call_list_seq _ (.inr rfl) ho hc hdd (fun h' c' hk e=>mkLst_wp rs h (tk:=S.s.toks) (get_size _) (fun b o _ e=>hk b o e) e) (by rw [List.size_toArray,rs.length,← lim_eq]; exact hl)
  | lst ds=>exact (res_seq r hd rfl).lst_el (T:=fun cv=>cP W C S Q E .list [cv]) fun a cvs ht rs hl=>E13 ht fun o ho hc hd=>E11 hd fun nn hdd=>
    call_list_seq _ (.inl rfl) ho hc hdd (fun h' c' hk e=>mkLst_wp rs h (tk:=S.s.toks) (get_size _) (fun b o _ e=>hk b o e) e) (by rw [List.size_toArray,rs.length,← lim_eq]; exact hl)
  | _=>exact h.elim
section
variable {x y : Int}
theorem pmin_wp (h : PostE S Q (.ok (.d (.int (if y < x then y else x))) S.σ)) : cP W C S Q E .min [.int x t,.int y u]:=
 min_two_ints C.r.handled fun h' tk hk=>if c : y < x then by
  rw [if_pos c] at h ⊢
  exact h.kept (S.X.keeps hk) (.d (.int _ _))
 else by
  rw [if_neg c] at h ⊢
  exact h.kept (S.X.keeps hk) (.d (.int _ _))
theorem pmax_wp (h : PostE S Q (.ok (.d (.int (if y > x then y else x))) S.σ)) : cP W C S Q E .max [.int x t,.int y u]:=
 max_two_ints C.r.handled fun h' tk hk=>if c : y > x then by
  rw [if_pos c] at h ⊢
  exact h.kept (S.X.keeps hk) (.d (.int _ _))
 else by
  rw [if_neg c] at h ⊢
  exact h.kept (S.X.keeps hk) (.d (.int _ _))
theorem prange_wp (h : PostE S Q (if decide (0≤x) && decide (x≤1000000) then .ok (.rng x.toNat) S.σ else .no)) : cP W C S Q E .range [.int x t]:=
 ite_el h fun hb h=>call_range_1 (by
  have h0 : 0≤x:=of_decide_eq_true (a1 hb)
  have ex : ((x.toNat : Nat) : Int)=x:=Int.toNat_of_nonneg h0
  exact h.newI (get_size _) (push_keeps _) (Heap.get?_push_size _ rfl) fun k e=>⟨_,_,rfl,e,_,_,_,by rw [ex],Int.toNat_le.mpr (of_decide_eq_true (a2 hb))⟩)
end
theorem prim_wp {p : Prim} (r : RepVs W S.G.I S.G.α cvs vs) (h : PostE S Q (primV p mu S.σ vs)) : cP W C S Q E p cvs:=by
 induction p with
 | len=>exact p1_el (T:=cP W C S Q E .len) h r fun cv v r h=>plen_wp r h
 | isiTuple=>exact p1_el (T:=cP W C S Q E .isiTuple) h r fun cv v r h=>vD_el h r fun x r h=>isi_wp rfl r h
 | isiStr=>exact p1_el (T:=cP W C S Q E .isiStr) h r fun cv v r h=>vD_el h r fun x r h=>isi_wp rfl r h
 | isiInt=>exact p1_el (T:=cP W C S Q E .isiInt) h r fun cv v r h=>vD_el h r fun x r h=>isi_wp rfl r h
 | isiBool=>exact p1_el (T:=cP W C S Q E .isiBool) h r fun cv v r h=>vD_el h r fun x r h=>isi_wp rfl r h
 | str=>exact p1_el (T:=cP W C S Q E .str) h r fun cv v r h=>vD_el h r fun x r h=>pstr_wp r h
 | tuple=>exact p1_el (T:=cP W C S Q E .tuple) h r fun cv v r h=>ptup_wp r h
 | list=>exact p1_el (T:=cP W C S Q E .list) h r fun cv v r h=>plst_wp r h
 | min=>exact p2_el (T:=cP W C S Q E .min) h r fun cv v cu u r r2 h=>vD_el h r fun x r h=>vD_el h r2 fun y r2 h=>two_ints (T:=fun a b=>cP W C S Q E .min [a,b]) h r r2 fun i j t u h=>pmin_wp h
 | max=>exact p2_el (T:=cP W C S Q E .max) h r fun cv v cu u r r2 h=>vD_el h r fun x r h=>vD_el h r2 fun y r2 h=>two_ints (T:=fun a b=>cP W C S Q E .max [a,b]) h r r2 fun i j t u h=>pmax_wp h
 | range=>exact p1_el (T:=cP W C S Q E .range) h r fun cv v r h=>vD_el h r fun x r h=>dI_el (T:=fun cv=>cP W C S Q E .range [cv]) h r fun i t h=>prange_wp h
end
end Mine
namespace Mine
open PySem PySem.W PySem.Calls PyProof.Rows
noncomputable def nsN (o : Option (Option Value)) : Bool:=@Option.casesOn _ (fun _=>Bool) o false fun o=>@Option.casesOn _ (fun _=>Bool) o true fun _=>false
noncomputable def oV (f : Value→Bool) (o : Option Value) : Bool:=@Option.casesOn _ (fun _=>Bool) o false f
theorem nsN_el {o : Option (Option Value)} (h : nsN o=true) : o=some none:=by
 cases o with
 | none=>cases h
 | some o=>cases o with
  | none=>rfl
  | some v=>cases h
theorem oV_el {f : Value→Bool} {o : Option Value} {T : Prop} (h : oV f o=true) (k : ∀ v,o=some v→f v=true→T) : T:=by
 cases o with
 | none=>cases h
 | some v=>exact k v rfl h
noncomputable def okB1 (K : Frag) (x : Str) (v : Value) : Bool:=(nsN (nsIn K mainGlobals x) && oV (· == v) (bootBuiltins x)) && (!(x == "__debug__") && !(x == "__name__"))
noncomputable def okP (K : Frag) (p : Prim) : Bool:=okB1 K (primNm p) (primVal p) && @Option.casesOn _ (fun _=>Bool) (isiNm p) true fun x=>okB1 K x (.type x)
noncomputable def okBs (K : Frag) : Bool:=[Prim.len,.isiTuple,.isiStr,.isiInt,.isiBool,.str,.tuple,.list,.min,.max,.range].all (okP K)
theorem okBs_p {K : Frag} (h : okBs K=true) (p : Prim) : okP K p=true:=List.all_eq_true.mp h p (by cases p <;> decide)
theorem isi_more {K : Frag} {p : Prim} {x : String} (h : okP K p=true) (e : isiNm p=some x) : okB1 K x (.type x)=true∧primMore p=[.type x]:=by
 have h:=a2 h
 rw [e] at h
 exact ⟨h,by unfold primMore; rw [e]⟩
theorem more_nil {p : Prim} (h : isiNm p=none) : primMore p=[]:=by unfold primMore; rw [h]
theorem primVal_kind (p : Prim) : (∃ id,primVal p=.builtin id)∨∃ T,primVal p=.type T:=by cases p <;> first | exact .inl ⟨_,rfl⟩ | exact .inr ⟨_,rfl⟩
section
variable {W : Wo} {F : Fx} {C : Cx F} {Γ : Loc} {S : Sx W C Γ} {Q E : Value→Shared→Prop} {np pq pos : Pos} {e o : PySem.Expr} {es : List PySem.Expr} {x : Str} {v : Value} {p : Prim} {mu : Bool} {f : Loc→Store→Ke→Kv→Prop} {g : Loc→Store→Ke→(List V→Store→Prop)→Prop}
noncomputable def Plains (env : Env) (es : List PySem.Expr) : Prop:=∀ e∈es,Plain1 env e
theorem Plains.nil {env : Env} : Plains env []:=fun _ h=>nomatch h
theorem plain_stars {env : Env} (h : Plains env es) : (backTo pos (starEach es env)).any (·.1)=false∧(backTo pos (starEach es env)).all (fun x=>!x.1)=true:=by
 induction es with
 | nil=>exact ⟨rfl,rfl⟩
 | cons e es ih=>
  rw [h e (.head _) es]
  exact ih fun x hx=>h x (.tail _ hx)
theorem wp_bi (hx : F.env.kindOf x=some .globalImplicit) (ok : okB1 W.K x v=true) (h : Q v S.s) : wpAny W.m C.A (eval (.Name x pos) F.env) Q E S.s:=
 oV_el (a2 (a1 ok)) fun u hu q=>wp_builtin hx (nt (a1 (a2 ok))) (nsN_el (a1 (a1 ok))) (fun z=>by
  have:=nt (a2 (a2 ok))
  rw [z] at this; cases this) ((eq_of_beq q) ▸ hu) h
theorem callB_wp {f : Value} (hf : (∃ id,f=.builtin id)∨∃ T,f=.type T) (hs : Plains F.env (e :: es)) {s : Shared}
  (h : wpAny W.m C.A (spliced (backTo pos (starEach (e :: es) F.env))) (fun vs s₁=>wpAny W.m C.A (call f vs) Q E s₁) E s) : wpAny W.m C.A (callWith pos f [] (backTo pos (starEach (e :: es) F.env)) []) Q E s:=by
 have h1:=hs e (.head _)
 have h2:=(plain_stars (pos:=pos) fun x hx=>hs x (.tail _ hx)).1
 rcases hf with ⟨id,rfl⟩ | ⟨T,rfl⟩
 ·exact callWith_builtin1 h (h1 es) h2
 ·exact PyProof.Rows.callWith_type1 h (h1 es) h2
theorem snd_prim (ok : okBs W.K=true) (hx : F.env.kindOf (primNm p)=some .globalImplicit) (hp : isiNm p=none) (hs : Plains F.env (e :: es)) (h2 : SndR W F (e :: es) g) :
  SndE W F (.Call (.Name (primNm p) np) (e :: es) [] pos) (fun Γ σ E K=>g Γ σ E fun vs σ=>Ok (primV p mu σ vs) K):=fun S KE K h Q E hQ hE=>
 Call_Name rfl (wp_bi hx (a1 (okBs_p ok p)) (callB_wp (primVal_kind p) hs (h2 S h (fun us cvs S1 l1 r1 h=>by
  have h:=prim_wp (E:=E) r1 (.of hQ l1 h)
  unfold cP at h
  rw [more_nil hp,List.append_nil] at h
  exact h) hE)))
theorem snd_isi {x : String} (ok : okBs W.K=true) (hx : F.env.kindOf (primNm p)=some .globalImplicit) (hp : isiNm p=some x) (hx2 : F.env.kindOf x=some .globalImplicit) (hs : Plain1 F.env e) (h2 : SndE W F e f) :
  SndE W F (.Call (.Name (primNm p) np) [e,.Name x pq] [] pos) (fun Γ σ E K=>f Γ σ E fun v σ=>Ok (primV p mu σ [v]) K):=fun S KE K h Q E hQ hE=>
 have hm:=isi_more (okBs_p ok p) hp
 Call_Name rfl (wp_bi hx (a1 (okBs_p ok p)) (callB_wp (primVal_kind p) (fun z hz=>(List.mem_cons.mp hz).elim (fun q=>q ▸ hs) fun hz=>List.mem_singleton.mp hz ▸ fun _=>rfl)
  (wpAny_items_cons (h2 S h (fun v cv S1 l1 r1 h=>wpAny_items_cons (wp_bi hx2 hm.1 (wpAny_items_nil (by
   have h:=prim_wp (E:=E) (cvs:=[cv]) (RepVs.cons (xs:=[]) r1 rfl) (.of hQ l1 h)
   unfold cP at h
   rw [hm.2] at h
   exact h))) rfl) hE) (hs _))))
theorem mcall_wp {A : Around} {env : Env} {name : Str} {apos : Pos} {args : List PySem.Expr} (hb : ∀ attr whole,attributeBase o attr env whole=whole) (hl : (apos.endLine == pos.line)=true) (hs : Plains env args) (hn : decide (args.length < 30)=true) {s : Shared}
  (h : wpAny W.m A (eval o env) (fun ov s₁=>wpAny W.m A (getMethod ov name (do return (← importBound o env).getD true)) (fun fx s₂=>wpAny W.m A (callWith pos fx.1 fx.2 (backTo pos (starEach args env)) []) Q E s₂) E s₁) E s) :
  wpAny W.m A (eval (.Call (.Attribute o name apos) args [] pos) env) Q E s:=by
 refine MethodCall_ (pl:=do return (← importBound o env).getD true) h ?_
 have e1 : eval (.Call (.Attribute o name apos) args [] pos) env=(do
   let ov ← attributeBase o name env (eval o env)
   standAt apos.atName
   methodCall o name apos pos env ov (args.length + 0) (backTo pos (starEach args env)) (backToKw pos (keywordEach [] env))):=rfl
 have few : methodCallForm (args.length + 0) (backTo pos (starEach args env)) (backToKw pos (keywordEach [] env))=true:=by
  unfold methodCallForm
  rw [(plain_stars hs).2]
  exact decide_eq_true (show args.length + 0 + 0 < 30 from of_decide_eq_true hn)
 have e2 : ∀ ov,methodCall o name apos pos env ov (args.length + 0) (backTo pos (starEach args env)) (backToKw pos (keywordEach [] env))=(do
   let (f,first) ← holding [ov] (getMethod ov name (do return (← importBound o env).getD true))
   callWith pos f first (backTo pos (starEach args env)) []):=fun ov=>by
  unfold methodCall
  rw [few,show methodCallPos true o env apos pos=pure pos by unfold methodCallPos; rw [if_pos (by rw [hl]; rfl)]]
  rfl
 rw [e1,hb]
 exact congrArg (fun k=>do
   let ov ← eval o env
   standAt apos.atName
   k ov) (funext e2)
theorem callM_wp {A : Around} {env : Env} {id : String} {first : List Value} (hs : Plains env (e :: es)) {s : Shared}
  (h : wpAny W.m A (spliced (backTo pos (starEach (e :: es) env))) (fun vs s₁=>wpAny W.m A (call (.builtin id) (first ++ vs)) Q E s₁) E s) :
  wpAny W.m A (callWith pos (.builtin id) first (backTo pos (starEach (e :: es) env)) []) Q E s:=callWith_method1 h (hs e (.head _) es) (plain_stars fun x hx=>hs x (.tail _ hx)).1
theorem low_ok (l : List Nat) (h : ∀ c∈l,c < 128) : Txt.lower ⟨l.toArray⟩=⟨(l.map lowC).toArray⟩:=by
 rw [lower_ascii (by simpa using h),show lo1=lowC from rfl]
 exact congrArg Str.mk List.map_toArray
theorem lowC_lt {c : Nat} (h : c < 128) : lowC c < 128:=by
 unfold lowC
 exact if q : 65≤c∧c≤90 then by rw [if_pos q]; exact Nat.lt_of_le_of_lt (Nat.add_le_add_right q.2 32) (by decide) else by rw [if_neg q]; exact h
theorem find_ok (c : Nat) (h : c < 128) : Txt.find ⟨hexL.toArray⟩ ⟨[c].toArray⟩=findC c hexL 0:=by
 have key : ∀ k : Fin 128,Txt.find ⟨hexL.toArray⟩ ⟨[k.val].toArray⟩=findC k.val hexL 0:=by decide +kernel
 exact key ⟨c,h⟩
section
variable {I : Imm} {sep l : List Nat} {ss : List (List Nat)} {cvs : List Value} {ds : List D} {d : D} {T : Prop} {us : List V} {ov : V} {t u : Tok} {m : Mth}
theorem strs_el (r : RepDs I cvs ds) (e : strsOf ds=some ss) (k : ∀ l : List (Str × Tok),cvs=strValues l→l.map (·.1)=ss.map (fun x=>(⟨x.toArray⟩ : Str))→(∀ x∈ss,∀ c∈x,c < 128)→T) : T:=by
 induction ds generalizing cvs ss with
 | nil=>
  cases e
  exact k [] r rfl fun _ h=>nomatch h
 | cons d ds ih=>
  exact r.el fun v vs ev rv rs=>by
   cases d with
   | str x=>
    exact E12 (Option.map_eq_some_iff.mp (show (strsOf ds).map (x :: ·)=some ss from e)) fun ys hy q=>by
     subst q
     exact ih rs hy fun l e1 e2 e3=>E13 rv fun t et h1 h2=>k ((⟨x.toArray⟩,t) :: l) (by rw [ev,et,e1]; rfl) (by rw [List.map_cons,List.map_cons,e2]) fun y hy=>(List.mem_cons.mp hy).elim (fun q=>q ▸ h1) (e3 y)
   | _=>cases e
theorem joinS_cons {x y : List Nat} : joinS sep (x :: y :: ss)=x ++ sep ++ joinS sep (y :: ss):=rfl
theorem joinS_str : Str.join ⟨sep.toArray⟩ (ss.map fun x=>(⟨x.toArray⟩ : Str))=⟨(joinS sep ss).toArray⟩:=by
 induction ss with
 | nil=>rfl
 | cons x r ih=>
  cases r with
  | nil=>rfl
  | cons y r=>
   show (⟨x.toArray⟩ : Str) ++ ⟨sep.toArray⟩ ++ Str.join ⟨sep.toArray⟩ ((y :: r).map fun x=>(⟨x.toArray⟩ : Str))=_
   rw [ih,str_app,str_app]; rfl
theorem joinS_mem {p : Nat→Prop} (hsep : ∀ c∈sep,p c) (h : ∀ x∈ss,∀ c∈x,p c) : ∀ c∈joinS sep ss,p c:=by
 induction ss with
 | nil=>exact fun _ h=>nomatch h
 | cons x r ih=>
  cases r with
  | nil=>exact h x (.head _)
  | cons y r=>exact fun c hc=>(List.mem_append.mp hc).elim (fun hc=>(List.mem_append.mp hc).elim (h x (.head _) c) (hsep c)) (ih (fun z hz=>h z (.tail _ hz)) c)
theorem joinSlen : (joinS sep ss).length≤(ss.map List.length).sum + ss.length * sep.length:=by
 induction ss with
 | nil=>exact Nat.zero_le _
 | cons x r ih=>
  cases r with
  | nil=>exact Nat.le_trans (Nat.le_add_right _ _) (Nat.le_add_right _ _)
  | cons y r=>
   rw [joinS_cons,List.length_append,List.length_append,List.map_cons,List.sum_cons,List.length_cons,Nat.succ_mul,Nat.add_assoc,Nat.add_assoc]
   exact Nat.add_le_add_left (Nat.le_trans (Nat.add_le_add_left ih _) (Nat.le_of_eq (by rw [Nat.add_left_comm,Nat.add_comm sep.length]))) _
noncomputable def mthNm (m : Mth) : Str:=@Mth.casesOn (fun _=>Str) m "join" "lower" "find"
noncomputable def mthId (m : Mth) : String:=@Mth.casesOn (fun _=>String) m "str.join" "str.lower" "str.find"
theorem getM_wp {x : Str} {pl : Sem Bool} {s : Shared} {Q : Value × List Value→Shared→Prop} (h : Q (.builtin (mthId m),[.str x t]) s) : wpAny W.m C.A (getMethod (.str x t) (mthNm m) pl) Q E s:=by
 cases m
 ·exact GM.join h
 ·exact GM.lower h
 ·exact GM.find h
noncomputable abbrev cM (W : Wo) (C : Cx F) (S : Sx W C Γ) (Q E : Value→Shared→Prop) (m : Mth) (x : Str) (t : Tok) (cvs : List Value) : Prop:=wpAny W.m C.A (call (.builtin (mthId m)) ([.str x t] ++ cvs)) Q E S.s
theorem mjoin_wp {v : V} {cv : Value} (h1 : ∀ c∈sep,c < 128) (r : S.rep cv v) (h : PostE S Q (withD S.σ v fun d=>joinD sep d S.σ)) : cM W C S Q E .join ⟨sep.toArray⟩ t [cv]:=
 withD_el h fun d hd h=>by
  cases d with
  | lst xs=>
   refine (res_seq r hd rfl).lst_el (T:=fun cv=>cM W C S Q E .join ⟨sep.toArray⟩ t [cv]) fun a cvs ht rs hl=>?_
   have h : PostE S Q (match strsOf xs with
    | some ss=>if decide ((ss.map List.length).sum + ss.length * sep.length≤LIM) then .ok (.d (.str (joinS sep ss))) S.σ else .no
    | none=>.no):=h
   cases hss : strsOf xs with
   | none=>rw [hss] at h; exact h.elim
   | some ss=>
    rw [hss] at h
    refine ite_el h fun hfit h=>strs_el rs hss fun l e1 e2 e3=>?_
    have hfit:=of_decide_eq_true hfit
    subst e1
    refine SC.join ht e2 ?_ fun t' k=>?_
    ·unfold JoinOk
     rw [StrLaws.joinTotal,Bool.not_eq_true']
     have a1 : ((ss.map fun x=>(⟨x.toArray⟩ : Str)).map (·.length))=ss.map List.length:=by rw [List.map_map]; exact List.map_congr_left fun x _=>List.size_toArray
     rw [a1,List.length_map,show Str.length ⟨sep.toArray⟩=sep.length from List.size_toArray]
     exact decide_eq_false (by rw [← lim_eq]; exact Nat.not_lt_of_le hfit)
    ·have e4 : Txt.join ⟨sep.toArray⟩ (ss.map fun x=>(⟨x.toArray⟩ : Str))=⟨(joinS sep ss).toArray⟩:=by
      unfold Txt.join
      rw [StrLaws.glued_eq_join]
      exact joinS_str
     rw [e4]
     exact h.now (.d (.str _ _ (joinS_mem h1 e3) (Nat.le_trans joinSlen hfit)))
  | _=>exact h.elim
theorem mlow_wp (h1 : ∀ c∈l,c < 128) (h2 : l.length≤LIM) (h : PostE S Q (.ok (.d (.str (l.map lowC))) S.σ)) : cM W C S Q E .lower ⟨l.toArray⟩ t []:=by
 have hl : (l.map lowC).length≤LIM:=by rw [List.length_map]; exact h2
 refine SC.lower ?_ ?_
 ·rw [low_ok l h1]
  exact decide_eq_false (by rw [← lim_eq]; exact Nat.not_lt_of_le hl)
 ·rw [low_ok l h1]
  exact h.now (.d (.str _ _ (fun c hc=>E12 (List.mem_map.mp hc) fun x hx q=>q ▸ lowC_lt (h1 x hx)) hl))
theorem mfind_wp {m : List Nat} (h3 : ∀ c∈m,c < 128) (h : PostE S Q (findS S.σ l m)) : cM W C S Q E .find ⟨l.toArray⟩ t [.str ⟨m.toArray⟩ u]:=by
 cases m with
 | nil=>exact h.elim
 | cons c r=>cases r with
  | cons _ _=>exact h.elim
  | nil=>
   refine ite_el h fun hb h=>SC.find ?_
   have hb:=eq_of_beq hb
   subst hb
   rw [find_ok c (h3 c (.head _))]
   exact PostE.now (v:=.d (.int _)) h (.d (.int _ _))
theorem mth_wp (h1 : ∀ c∈l,c < 128) (h2 : l.length≤LIM) (r : RepVs W S.G.I S.G.α cvs us) (h : PostE S Q (mthV m S.σ (.d (.str l)) us)) : cM W C S Q E m ⟨l.toArray⟩ t cvs:=by
 cases m with
 | join=>exact p1_el (T:=cM W C S Q E .join ⟨l.toArray⟩ t) h r fun cv a r h=>mjoin_wp h1 r h
 | lower=>exact p0_el (T:=cM W C S Q E .lower ⟨l.toArray⟩ t) h r fun h=>mlow_wp h1 h2 h
 | find=>exact p1_el (T:=cM W C S Q E .find ⟨l.toArray⟩ t) h r fun cv a r h=>vD_el h r fun x r h=>dS_el (T:=fun m=>cM W C S Q E .find ⟨l.toArray⟩ t [m]) h r fun m u h3 h4 h=>mfind_wp h3 h
theorem Ds_el {K : List Nat→Prop} {T : Value→Prop} {v : Value} (h : Ds d K) (r : RepD I v d) (k : ∀ l t,(∀ c∈l,c < 128)→l.length≤LIM→K l→T (.str ⟨l.toArray⟩ t)) : T v:=by
 cases d with
 | str l=>exact r.str_el fun t h1 h2=>k l t h1 h2 h
 | _=>exact h.elim
theorem snd_mth0 {apos : Pos} (hb : ∀ attr whole,attributeBase o attr F.env whole=whole) (hl : (apos.endLine == pos.line)=true) (h1 : SndE W F o f) :
  SndE W F (.Call (.Attribute o (mthNm m) apos) [] [] pos) (fun Γ σ E K=>f Γ σ E fun x σ=>Vd x fun d=>Ds d fun l=>Ok (mthV m σ (.d (.str l)) []) K):=fun S KE K h Q E hQ hE=>
 mcall_wp hb hl Plains.nil rfl (h1 S h (fun v cv S1 l1 r1 h=>Vd_el h r1 fun d rd h=>Ds_el (T:=fun cv=>wpAny W.m _ (getMethod cv (mthNm m) _) _ E S1.s) h rd fun l t h2 h3 h=>
  getM_wp (callWith_method0 (mth_wp (cvs:=[]) (us:=[]) h2 h3 rfl (.of hQ l1 h)))) hE)
theorem snd_mth {apos : Pos} (hb : ∀ attr whole,attributeBase o attr F.env whole=whole) (hl : (apos.endLine == pos.line)=true) (hs : Plains F.env (e :: es)) (hn : decide ((e :: es).length < 30)=true) (h1 : SndE W F o f) (h2 : SndR W F (e :: es) g) :
  SndE W F (.Call (.Attribute o (mthNm m) apos) (e :: es) [] pos) (fun Γ σ E K=>f Γ σ E fun x σ=>Vd x fun d=>Ds d fun l=>g Γ σ E fun us σ=>Ok (mthV m σ (.d (.str l)) us) K):=fun S KE K h Q E hQ hE=>
 mcall_wp hb hl hs hn (h1 S h (fun v cv S1 l1 r1 h=>Vd_el h r1 fun d rd h=>Ds_el (T:=fun cv=>wpAny W.m _ (getMethod cv (mthNm m) _) _ E S1.s) h rd fun l t h3 h4 h=>
  getM_wp (callM_wp hs (h2 S1 h (fun us cvs S2 l2 r2 h=>mth_wp h3 h4 r2 (.of hQ (l1.trans l2) h)) (hE.up l1)))) hE)
end
end
end Mine
namespace Mine
open PySem PySem.W PySem.Calls PyProof.Rows
structure Fst {F : Fx} (C : Cx F) : Prop where
 o : ∃ outer,C.fr=F.env :: outer
 f : F.env.frame=some C.L
section
variable {W : Wo} {F : Fx} {C : Cx F} {Γ : Loc} {S : Sx W C Γ} {E : Value→Shared→Prop} {G : Gh} {σ : Store} {L x T : Addr} {Fs : Led} {h h' : Heap} {I : Imm} {hid rec_ : List Addr} {a0 : Value}
noncomputable abbrev led (L : Addr) (G : Gh) (Fs : Led) : Led:=(L,.ns G.m) :: (G.M ++ Fs)
noncomputable def addrs (M : Led) : List Addr:=(M.filter fun p=>p.2.isNs).map (·.1)
theorem addrs_mem {M : Led} {p : Addr × Cell} (h : p∈M) (hn : p.2.isNs=true) : p.1∈addrs M:=List.mem_map_of_mem (List.mem_filter.mpr ⟨h,hn⟩)
theorem addrs_el {M : Led} {a : Addr} {T : Prop} (h : a∈addrs M) (k : ∀ p∈M,p.2.isNs=true→p.1=a→T) : T:=E12 (List.mem_map.mp h) fun p hp e=>k p (List.mem_filter.mp hp).1 (List.mem_filter.mp hp).2 e
theorem nodup_fst {M : Led} (nd : (M.map (·.1)).Nodup) {p q : Addr × Cell} (hp : p∈M) (hq : q∈M) (e : p.1=q.1) : p=q:=by
 induction M with
 | nil=>cases hp
 | cons x M ih=>
  have nd:=List.nodup_cons.mp nd
  rcases List.mem_cons.mp hp with e1 | h1 <;> rcases List.mem_cons.mp hq with e2 | h2
  ·rw [e1,e2]
  ·exact absurd (List.mem_map.mpr ⟨q,h2,e.symm.trans (congrArg Prod.fst e1)⟩) nd.1
  ·exact absurd (List.mem_map.mpr ⟨p,h1,e.trans (congrArg Prod.fst e2)⟩) nd.1
  ·exact ih nd.2 h1 h2
structure Rec (I : Imm) (h : Heap) (a : Addr) : Prop where
 i : I a=none
 r : ∃ o vs,h.get? a=some o∧o.data=.fields vs
theorem St.upto (X : St W G σ L Fs h) (hr : ∀ a∈rec_,Rec I h a) (hI : I=G.I) (k : (hideAll h (rec_ ++ addrs (led L G Fs))).StaysIn h') (u : h.UpToSlots h') : St W G σ L Fs h':=by
 subst hI
 refine { X with inv:=⟨fun b o e=>k b o (hideAll_get _ (X.inv.imm b o e) fun hb=>?_),fun p hp=>⟨(X.inv.mu p hp).1,?_⟩,X.inv.nd⟩ }
 ·have : G.I b=none:=(List.mem_append.mp hb).elim (fun ha=>(hr b ha).i) fun ha=>addrs_el ha fun p hp _ q=>q ▸ (X.inv.mu p hp).1
  rw [this] at e; cases e
 ·have hc:=(X.inv.mu p hp).2
  obtain ⟨a,c⟩:=p
  have other : Cell.isNs c=false→CellAt W h' a c:=fun hn=>cell_rec hc fun o e hd=>k a o (hideAll_get _ e fun hm=>(List.mem_append.mp hm).elim
   (fun hm=>E22 (hr a hm).r fun o' vs ho' hd'=>hd vs (by rw [e] at ho'; cases ho'; exact hd')) fun hm=>addrs_el hm fun q hq hn' e2=>by
    rw [nodup_fst X.inv.nd hq hp e2,hn] at hn'; cases hn')
  cases c with
  | ns m=>exact E33 hc fun o es ep ho hd r=>E11 (u a o ho fun vs q=>by rw [hd] at q; cases q) fun sl e=>⟨_,es,ep,e,hd,r⟩
  | lst _=>exact other rfl
  | wd _ _=>exact other rfl
  | obj _=>exact other rfl
theorem St.funFrames (X : St W G σ L Fs h) (hs : ∀ a∈addrs (led L G Fs),a∈hid) {l : List Env} (hk : ∀ e∈l,e.scope.kind ≠ .module∧∃ L',e.frame=some L'∧(L'=L∨∃ m,(L',Cell.ns m)∈Fs)) : h.FunFrames (hideAll h hid) l:=by
 induction l with
 | nil=>trivial
 | cons e l ih=>
  have hk0:=hk e (.head _)
  exact E12 hk0.2 fun L' k2 k3=>
   have hm : ∃ m,(L',Cell.ns m)∈led L G Fs:=k3.elim (fun q=>⟨G.m,q ▸ List.mem_cons_self⟩) fun h=>E11 h fun m hm=>⟨m,.tail _ (List.mem_append_right _ hm)⟩
   E11 hm fun m hm=>cell_el (X.inv.mu _ hm).2 fun o ho hd _=>⟨hk0.1,⟨L',o,k2,hideAll_none hid (hs L' (addrs_mem hm rfl)),ho,hd⟩,ih fun e he=>hk e (.tail _ he)⟩
theorem none_of (im : ∀ b o,I b=some o→h.get? b=some o) (hI : ∀ a∈hid,I a=none) {T : Addr} (hb : (hideAll h hid).get? T=none) : I T=none:=by
 cases q : I T with
 | none=>rfl
 | some o=>
  have:=hideAll_get hid (im T o q) fun hm=>by rw [hI T hm] at q; cases q
  rw [hb] at this; cases this
theorem tr_of {fl : Value} {Z : Prop} (im : ∀ b o,I b=some o→h.get? b=some o) (hI : ∀ a∈hid,I a=none) (hx : x∈hid) (t : h'.TracedAtW (hideAll h hid) x (.ref (gfC W.K)) a0 fl) (k : ∀ A,Tr W I x fl h' A→Z) : Z:=
 t.elim fun oe t=>t.elim fun vs t=>t.elim fun A t=>t.elim fun oT t=>t.elim fun ts t=>k A ⟨⟨⟨oe,vs,a0,t.1,t.2.1.1,t.2.2.1,t.2.1.2,t.2.2.2.1⟩,hI x hx⟩,t.2.2.2.2.2.1,⟨oT,ts,t.2.2.2.2.2.2.1,t.2.2.2.2.2.2.2.1,t.2.2.2.2.2.2.2.2⟩,none_of im hI t.2.2.2.2.1⟩
theorem Tr.at {fl : Value} {Z : Prop} (t : Tr W I x fl h T) (hT : T∈hid) (k : ∀ a0,h.TracedAtW (hideAll h hid) x (.ref (gfC W.K)) a0 fl→Z) : Z:=
 E35 t.r fun ox vs a0 hx hc hd h0 h1=>E23 t.t fun oT ts hoT hdT h3=>k a0 ⟨ox,vs,T,oT,ts,hx,⟨hc,h0⟩,hd,h1,hideAll_none _ hT,t.ne,hoT,hdT,h3⟩
theorem FlyX.rc {y : Value} (f : FlyX W I x y h) : Rec I h x:=⟨f.i,E35 f.r fun ox vs a0 hx hc hd h0 h1=>⟨ox,vs,hx,hd⟩⟩
theorem Tr.rc {fl : Value} (f : Tr W I x fl h T) : Rec I h T:=⟨f.iT,E23 f.t fun oT ts hoT hdT h3=>⟨oT,ts,hoT,hdT⟩⟩
theorem hid_none (hr : ∀ a∈rec_,Rec S.G.I S.s.heap a) : ∀ a∈rec_ ++ addrs (led C.L S.G C.Fs),S.G.I a=none:=fun a ha=>(List.mem_append.mp ha).elim (fun ha=>(hr a ha).i) fun ha=>addrs_el ha fun p hp _ q=>q ▸ (S.X.inv.mu p hp).1
theorem noted_el {l : List Env} {Q : Unit→Shared→Prop} (hr : ∀ a∈rec_,Rec S.G.I S.s.heap a) (hx : x∈rec_) (hN : Heap.NotedW (hideAll S.s.heap (rec_ ++ addrs (led C.L S.G C.Fs))) l x (.ref (gfC W.K)) a0 (rawInt C.L) S.s.heap h')
  (h : ∀ (S' : Sx W C Γ) T,Le S S'→S'.σ=S.σ→Tr W S'.G.I x (rawInt C.L) S'.s.heap T→Q () S'.s) : Q () { S.s with heap:=h' }:=
 E04 hN fun k1 k2 k3 k4=>tr_of S.X.inv.imm (hid_none hr) (List.mem_append_left _ hx) k3 fun T t=>h (S.to S.G S.σ h' S.s.toks (.refl _) (S.X.upto hr rfl k1 k4)) T (S.to_le _ _) rfl t
theorem note_wp {Q : Unit→Shared→Prop} (fs : Fst C) (f : Fly W S.G.I C.L x S.s.heap) (h : ∀ (S' : Sx W C Γ) T,Le S S'→S'.σ=S.σ→Tr W S'.G.I x (rawInt C.L) S'.s.heap T→Q () S'.s) : wpAny W.m C.A (noteFrame (.ref x) F.env) Q E S.s:=
 E11 fs.o fun outer ho=>by
  have hfr:=C.r.frames
  have hk:=C.r.kinds
  rw [ho] at hfr hk
  have ff : ∀ rec_,Heap.FunFrames S.s.heap (hideAll S.s.heap (rec_ ++ addrs (led C.L S.G C.Fs))) (F.env :: outer):=fun rec_=>S.X.funFrames (fun a ha=>List.mem_append_right _ ha) hk
  rcases f with f | ⟨T,fl,hfl,t⟩
  ·have hr : ∀ a∈[x],Rec S.G.I S.s.heap a:=fun a ha=>List.mem_singleton.mp ha ▸ f.rc
   refine E35 f.r fun ox vs a0 hx hc hd h0 h1=>?_
   unfold noteFrame
   rw [fs.f]
   refine wpAny_bind (wpAny_field hx hd h1 ?_)
   rw [if_neg (by decide)]
   refine wpAny_entryW (base:=hideAll S.s.heap ([x] ++ addrs (led C.L S.G C.Fs))) hfr (ff _) fs.f hx (fun b o e=>of_hideAll _ e) (hideAll_none _ (.head _)) hd (Array.getElem?_eq_some_iff.mp h1).1 h0 fun h' hN=>?_
   rw [hc] at hN
   exact noted_el hr (.head _) hN h
  ·have hr : ∀ a∈[x,T],Rec S.G.I S.s.heap a:=fun a ha=>(List.mem_cons.mp ha).elim (fun q=>q ▸ t.toFlyX.rc) fun ha=>List.mem_singleton.mp ha ▸ t.rc
   rcases hfl with rfl | rfl
   ·exact t.at (hid:=[x,T] ++ addrs (led C.L S.G C.Fs)) (.tail _ (.head _)) fun a0 tr=>wpAny_noteFrame_onW hfr (ff _) fs.f tr (fun b o e=>of_hideAll _ e) (hideAll_none _ (.head _)) fun h' hN=>noted_el hr (.head _) hN h
   ·exact t.at (hid:=[x,T] ++ addrs (led C.L S.G C.Fs)) (.tail _ (.head _)) fun a0 tr=>wpAny_noteFrame_againW fs.f tr (h S T (.refl S) rfl t)
theorem St.butRec (X : St W G σ L Fs h) (hr : Rec G.I h T) (keep : But T h h') : St W G σ L Fs h':=
 E22 hr.r fun oT ts hT hd=>{ X with inv:=⟨fun b o e=>keep b o (fun q=>by rw [q,hr.i] at e; cases e) (X.inv.imm b o e),fun p hp=>⟨(X.inv.mu p hp).1,cell_rec (X.inv.mu p hp).2 fun o e hn=>keep _ _ (fun q=>by rw [q,hT] at e; cases e; exact hn ts hd) e⟩,X.inv.nd⟩ }
theorem flight_wp {A : Around} {Q : Unit→Shared→Prop} {fl : Value} {v : Option Addr} (t : Tr W S.G.I x fl S.s.heap T) (h : ∀ (S' : Sx W C Γ),Le S S'→S'.σ=S.σ→Tr W S'.G.I x (v.elim Value.none fun f=>rawInt f) S'.s.heap T→Q () S'.s) : wpAny W.m A (setFlight (.ref x) v) Q E S.s:=
 E35 t.r fun ox vs a0 hx hc hd h0 h1=>E23 t.t fun oT ts hoT hdT h3=>by
  unfold setFlight
  refine wpAny_bind (wpAny_field hx hd h1 ?_)
  rw [if_pos (show (Value.ref T != Value.none)=true from rfl)]
  have hi3 : 3 < ts.size:=(Array.getElem?_eq_some_iff.mp h3).1
  refine wpAny_setField hoT hdT hi3 ?_
  have keep : But T S.s.heap (S.s.heap.update T (Obj.mapFields (·.setIfInBounds 3 (v.elim Value.none fun f=>rawInt f)))):=fun b o hb e=>(Heap.get?_update_other _ _ (Ne.symm hb)).trans e
  refine h (S.to S.G S.σ _ S.s.toks (.refl _) (S.X.butRec t.rc keep)) (S.to_le _ _) rfl ⟨⟨⟨ox,vs,a0,keep _ _ (Ne.symm t.ne) hx,hc,hd,h0,h1⟩,t.i⟩,t.ne,⟨_,_,Heap.get?_update_self _ hoT (Obj.isFreed_of_fields (Obj.data_mapFields hdT _)),Obj.data_mapFields hdT _,?_⟩,t.iT⟩
  rw [Array.getElem?_setIfInBounds_self,if_pos hi3]
theorem leave_wp {Q : Unit→Shared→Prop} (fs : Fst C) (f : Fly W S.G.I C.L x S.s.heap) (h : ∀ (S' : Sx W C Γ),Le S S'→S'.σ=S.σ→(∀ L',Fly W S'.G.I L' x S'.s.heap)→Q () S'.s) : wpAny W.m C.A (leaving F.env (.ref x)) Q E S.s:=by
 unfold leaving
 exact wpAny_bind (note_wp fs f fun S1 T l1 e1 t=>flight_wp (v:=none) t fun S2 l2 e2 t2=>h S2 (l1.trans l2) (e2.trans e1) fun L'=>.inr ⟨T,_,.inl rfl,t2⟩)
theorem loop_wp (fs : Fst C) (f : Fly W S.G.I C.L x S.s.heap) (h : ∀ (S' : Sx W C Γ),Le S S'→S'.σ=S.σ→Fly W S'.G.I C.L x S'.s.heap→E (.ref x) S'.s) : notedBy W.m C.A F.env (cameBackBy W.m C.A F.env E) (.ref x) S.s:=by
 refine note_wp fs f fun S1 T l1 e1 t=>?_
 refine E35 t.r fun ox vs a0 hx hc hd h0 h1=>wpAny_bind (wpAny_field hx hd h1 ?_)
 rw [if_neg (fun h=>Bool.noConfusion h)]
 exact flight_wp t fun S2 l2 e2 t2=>h S2 (l1.trans l2) (e2.trans e1) (.inr ⟨T,_,.inr (by rw [fs.f]; rfl),t2⟩)
end
end Mine
namespace Mine
open PySem PySem.W PySem.Calls PyProof.Rows
theorem zip_none {α : Type} {ns : List Str} {n : Str} {us : List α} (h : n ∉ ns) : (ns.zip us).lookup n=none:=by
 induction ns generalizing us with
 | nil=>rfl
 | cons x ns ih=>
  cases us with
  | nil=>rfl
  | cons u us=>
   rw [List.zip_cons_cons,List.lookup_cons,show (n == x)=false from beq_eq_false_iff_ne.mpr fun e=>h (e ▸ .head _)]
   exact ih fun m=>h (.tail _ m)
theorem lookup_app {α : Type} {l r : List (Str × α)} {n : Str} (h : l.lookup n=none) : (l ++ r).lookup n=r.lookup n:=by
 induction l with
 | nil=>rfl
 | cons p l ih=>
  rw [List.lookup_cons] at h
  rw [List.cons_append,List.lookup_cons]
  cases q : n == p.1 with
  | true=>rw [q] at h; cases h
  | false=>rw [q] at h; exact ih h
theorem binds_zip {α : Type} (ns : List Str) (us : List α) (pre : List (Str × α)) (nd : ns.Nodup) (hl : ns.length=us.length) (hp : ∀ n∈ns,pre.lookup n=none) : (ns.filterMap fun n=>((pre ++ ns.zip us).lookup n).map (n,·))=ns.zip us:=by
 induction ns generalizing us pre with
 | nil=>rfl
 | cons n ns ih=>
  cases us with
  | nil=>cases hl
  | cons u us=>
   have nd:=List.nodup_cons.mp nd
   have e1 : (pre ++ (n,u) :: ns.zip us).lookup n=some u:=by rw [lookup_app (hp n (.head _)),List.lookup_cons,beq_self_eq_true]
   rw [List.zip_cons_cons,List.filterMap_cons,e1]
   have:=ih us (pre ++ [(n,u)]) nd.2 (Nat.succ.inj hl) fun m hm=>by
    rw [lookup_app (hp m (.tail _ hm)),List.lookup_cons,show (m == n)=false from beq_eq_false_iff_ne.mpr fun e=>nd.1 (e ▸ hm)]; rfl
   rw [List.append_assoc] at this
   exact congrArg ((n,u) :: ·) this
noncomputable def plainParams (p : Arguments) : Bool:=p.posonlyargs.isEmpty && p.kwonlyargs.isEmpty && p.vararg.isNone && p.kwarg.isNone
noncomputable def DefOf (s : Shared) (d : Value) (dv : List Value) : Prop:=∀ (M : Model) (A : Around) (E : Value→Shared→Prop) (Q : Option (Array Value)→Shared→Prop),(∀ o : Option (Array Value),(o.getD #[]).toList=dv→Q o s)→wpAny M A (seqItems? d) Q E s
theorem zip_some {α : Type} {ns : List Str} {n : Str} {us : List α} (hm : n∈ns) (h : ns.length≤us.length) : ((ns.zip us).lookup n).isSome=true:=by
 induction ns generalizing us with
 | nil=>cases hm
 | cons x ns ih=>
  cases us with
  | nil=>cases h
  | cons u us=>
   rw [List.zip_cons_cons,List.lookup_cons]
   cases q : n == x with
   | true=>rfl
   | false=>
    rcases List.mem_cons.mp hm with rfl | hm
    ·rw [beq_self_eq_true] at q; cases q
    ·exact ih hm (Nat.le_of_succ_le_succ h)
noncomputable def fill1 (x : Str × Value) (acc : List (Str × Value)) : Sem (ForInStep (List (Str × Value))):=if (List.lookup x.fst acc).isNone=true then pure (ForInStep.yield (acc ++ [(x.fst,x.snd)])) else pure (ForInStep.yield acc)
theorem fill_same (l : List (Str × Value)) (slots : List (Str × Value)) (h : ∀ x∈l,(slots.lookup x.1).isSome=true) : (forIn l slots fill1 : Sem (List (Str × Value)))=pure slots:=by
 induction l with
 | nil=>rfl
 | cons x l ih=>
  have e : fill1 x slots=pure (ForInStep.yield slots):=if_neg fun q=>by
   have h0:=h x (.head _)
   rw [Option.isNone_iff_eq_none.mp q] at h0; cases h0
  rw [List.forIn_cons,e,pure_bind]
  exact ih fun y hy=>h y (.tail _ hy)
theorem filter_none {α : Type} {f : Str→Option α} {l : List Str} (h : ∀ n∈l,(f n).isSome=true) : l.filter (fun n=>(f n).isNone)=[]:=
 List.filter_eq_nil_iff.mpr fun n hn q=>by
  have h:=h n hn
  rw [Option.isNone_iff_eq_none.mp q] at h; cases h
theorem ifn {α : Type} {M : Model} {A : Around} {c : Prop} [Decidable c] {a b : Sem α} {Q : α→Shared→Prop} {E : Value→Shared→Prop} {s : Shared} (h : ¬ c) (k : wpAny M A b Q E s) : wpAny M A (if c then a else b) Q E s:=by
 rw [if_neg h]; exact k
theorem binds_core {s : Shared} {cvs dv vs' : List Value} {f1 f2 : Str} {f4 : FuncBody} {f5 : Scope} {f6 : Addr} {f7 : List (Str × Addr)} {f8 f9 f10 f11 : Value} {f12 : Option Addr} {f13 f14 : Value} {f15 : Addr} {as : List Arg} {p5 : List (Option Expr)} {p7 : List Expr} {slots : List (Str × Value)} {ns : List Str}
  (hn : as.map (·.arg)=ns) (hD : DefOf s f8 dv) (hle : cvs.length≤ns.length) (h2 : List.filter (fun n=>((ns.zip cvs).lookup n).isNone) (ns.take (ns.length - (dv.drop (dv.length - ns.length)).length))=[])
  (h3 : (forIn ((ns.drop (ns.length - (dv.drop (dv.length - ns.length)).length)).zip (dv.drop (dv.length - ns.length))) (ns.zip cvs) fill1 : Sem (List (Str × Value)))=pure slots)
  (h4 : (ns.filterMap fun n=>(slots.lookup n).map (n,·))=ns.zip vs') :
  BindsTo s ⟨f1,f2,⟨[],as,none,[],p5,none,p7⟩,f4,f5,f6,f7,f8,f9,f10,f11,f12,f13,f14,f15⟩ ⟨cvs,[]⟩ (ns.zip vs'):=by
 intro M A E Q hq
 subst hn
 refine wpAny_bind (wpAny_pure (wpAny_bind (hD _ _ _ _ fun o ho=>?_)))
 refine ifn (fun q=>absurd (of_decide_eq_true (Bool.and_eq_true_iff.mp q).1) (Nat.not_lt_of_le hle)) ?_
 rw [← ho] at h2 h3
 refine ifn (fun q=>Bool.noConfusion ((congrArg (fun l=>!List.isEmpty l) h2).symm.trans q)) ?_
 refine wpAny_bind ?_
 refine Eq.mpr (congrArg (fun m=>wpAny M A m _ E s) h3) (wpAny_pure ?_)
 refine wpAny_bind (wpAny_pure (wpAny_pure ?_))
 rw [← h4] at hq
 exact Eq.mpr (congrArg (fun l=>Q l s) (congrArg (List.filterMap _) (List.append_nil _))) hq
theorem binds_lit {s : Shared} {cvs dv vs' : List Value} {f1 f2 : Str} {f4 : FuncBody} {f5 : Scope} {f6 : Addr} {f7 : List (Str × Addr)} {f8 f9 f10 f11 : Value} {f12 : Option Addr} {f13 f14 : Value} {f15 : Addr} {as : List Arg} {p5 : List (Option Expr)} {p7 : List Expr} {ns : List Str}
  (hn : as.map (·.arg)=ns) (nd : ns.Nodup) (hD : DefOf s f8 dv) (h : (dv.length≤ns.length∧cvs.length=ns.length∧vs'=cvs)∨(∃ d,dv=[d]∧cvs.length + 1=ns.length∧vs'=cvs ++ [d])) :
  BindsTo s ⟨f1,f2,⟨[],as,none,[],p5,none,p7⟩,f4,f5,f6,f7,f8,f9,f10,f11,f12,f13,f14,f15⟩ ⟨cvs,[]⟩ (ns.zip vs'):=by
 rcases h with ⟨_,hl,rfl⟩ | ⟨d,rfl,hl,rfl⟩
 ·exact binds_core hn hD (Nat.le_of_eq hl) (filter_none fun n hn=>zip_some (List.mem_of_mem_take hn) (Nat.le_of_eq hl.symm)) (fill_same _ _ fun x hx=>zip_some (List.mem_of_mem_drop (List.of_mem_zip hx).1) (Nat.le_of_eq hl.symm)) (binds_zip ns vs' [] nd hl.symm fun _ _=>rfl)
 ·have hne : ns ≠ []:=fun e=>by rw [e] at hl; cases hl
  refine E21 (⟨ns.dropLast,ns.getLast hne,(List.dropLast_concat_getLast hne).symm⟩ : ∃ ini last,ns=ini ++ [last]) fun ini last q=>?_
  clear hne
  subst q
  have hli : ini.length=cvs.length:=by rw [List.length_append] at hl; exact (Nat.succ.inj hl).symm
  have d0 : [d].drop ([d].length - (ini ++ [last]).length)=[d]:=by
   rw [List.length_append,show [d].length - (ini.length + [last].length)=0 from Nat.sub_eq_zero_of_le (Nat.le_add_left 1 _)]; rfl
  have k0 : (ini ++ [last]).length - [d].length=ini.length:=by rw [List.length_append]; rfl
  have ez : (ini ++ [last]).zip cvs=ini.zip cvs:=(congrArg (List.zip _) (List.append_nil cvs).symm).trans ((List.zip_append (r₁:=[last]) (r₂:=[]) hli).trans (List.append_nil _))
  have nlast : last ∉ ini:=fun hm=>(List.nodup_append.mp nd).2.2 last hm last (.head _) rfl
  refine binds_core (slots:=ini.zip cvs ++ [(last,d)]) hn hD (Nat.le_of_succ_le (Nat.le_of_eq hl)) ?_ ?_ ?_
  ·rw [d0,k0,List.take_left,ez]; exact filter_none fun n hn=>zip_some hn (Nat.le_of_eq hli)
  ·rw [d0,k0,List.drop_left,ez,show [last].zip [d]=[(last,d)] from rfl,List.forIn_cons,show fill1 (last,d) (ini.zip cvs)=pure (ForInStep.yield (ini.zip cvs ++ [(last,d)])) from if_pos (by rw [zip_none nlast]; rfl),pure_bind]; rfl
  ·rw [show ini.zip cvs ++ [(last,d)]=(ini ++ [last]).zip (cvs ++ [d]) from (List.zip_append (r₁:=[last]) (r₂:=[d]) hli).symm]
   exact binds_zip (ini ++ [last]) (cvs ++ [d]) [] nd (by rw [List.length_append,List.length_append,hli]; rfl) fun _ _=>rfl
theorem binds_of {s : Shared} {fd : FuncData} {cvs dv vs' : List Value} (hp : plainParams fd.params=true) (nd : (fd.params.args.map (·.arg)).Nodup) (hD : DefOf s fd.defaults dv)
  (h : (dv.length≤fd.params.args.length∧cvs.length=fd.params.args.length∧vs'=cvs)∨(∃ d,dv=[d]∧cvs.length + 1=fd.params.args.length∧vs'=cvs ++ [d])) :
  BindsTo s fd ⟨cvs,[]⟩ ((fd.params.args.map (·.arg)).zip vs'):=by
 rw [← List.length_map (as:=fd.params.args) (f:=(·.arg))] at h
 have key : ∀ p : Arguments,plainParams p=true→p=⟨[],p.args,none,[],p.kw_defaults,none,p.defaults⟩:=fun ⟨p1,as,p3,p4,p5,p6,p7⟩ hp=>by
  have hp:=Bool.and_eq_true_iff.mp hp
  have hp':=Bool.and_eq_true_iff.mp hp.1
  have hp2:=Bool.and_eq_true_iff.mp hp'.1
  induction p1 with
  | nil=>induction p4 with
   | nil=>induction p3 with
    | none=>induction p6 with
     | none=>rfl
     | some=>exact Bool.noConfusion hp.2
    | some=>exact Bool.noConfusion hp'.2
   | cons=>exact Bool.noConfusion hp2.2
  | cons=>exact Bool.noConfusion hp2.1
 have e : fd={ fd with params:=⟨[],fd.params.args,none,[],fd.params.kw_defaults,none,fd.params.defaults⟩ }:=congrArg (fun p=>{ fd with params:=p }) (key fd.params hp)
 exact Eq.mpr (congrArg (fun f=>BindsTo s f ⟨cvs,[]⟩ ((fd.params.args.map (·.arg)).zip vs')) e) (binds_lit rfl nd hD h)
end Mine
namespace Mine
open PySem PySem.W PySem.Calls PyProof.Rows
section
variable {W : Wo} {F : Fx} {C : Cx F} {Γ Γ' : Loc}
structure OutS (S : Sx W C Γ) (Q : Flow→Shared→Prop) (N : Kn) (J : J) : Prop where
 n : ∀ {Γ'} (S' : Sx W C Γ'),LeX S S'→N Γ' S'.σ→Q .next S'.s
 b : ∀ {Γ'} (S' : Sx W C Γ'),LeX S S'→J.B Γ' S'.σ→Q .brk S'.s
 z : ∀ {Γ'} (S' : Sx W C Γ') k cv v,LeX S S'→S'.rep cv v→J.Z k v S'.σ→Q (.ret cv) S'.s
variable (W F) in
noncomputable def SndS (x : Stmt) (f : Kn→J→Loc→Store→Prop) : Prop:=∀ {C : Cx F} {Γ : Loc},Fst C→∀ (S : Sx W C Γ) {N J},f N J Γ S.σ→∀ {Q E},OutS S Q N J→OutX S E J.E→wpAny W.m C.A (exec x F.env) Q E S.s
variable (W F) in
noncomputable def SndSs (x : List Stmt) (f : Kn→J→Loc→Store→Prop) : Prop:=∀ {C : Cx F} {Γ : Loc},Fst C→∀ (S : Sx W C Γ) {N J},f N J Γ S.σ→∀ {Q E},OutS S Q N J→OutX S E J.E→wpAny W.m C.A (execs x F.env) Q E S.s
variable (W) in
noncomputable def SndF (n : Nat) (D : Fn→List V→Store→Ke→Kv→Prop) : Prop:=∀ (f : Fn) {F : Fx} {C : Cx F} {Γ : Loc} (S : Sx W C Γ),F.n=n→∀ {cvs us KE K},RepVs W S.G.I S.G.α cvs us→D f us S.σ KE K→∀ {Q E},OutV S Q K→OutE S E KE→wpAny W.m C.A (call (.ref (fa W.K f)) cvs) Q E S.s
structure FnOk (K : Frag) (f : Fn) (fd : FuncData) (body : List Stmt) (ns : List Str) : Prop where
 obj : ∃ o,K.lookup (fa K f)=some o∧o.data=.func fd
 body : fd.body=.stmts body
 code : codeIn K fd.code fd.qualname=true
 clo : fd.closure=[]
 glob : fd.globals=mainGlobals
 bi : fd.builtins=builtinsNs
 nofree : ∀ x,fd.scope.names.lookup x ≠ some .free
 kind : fd.scope.kind=.function
 co : fd.scope.isCoroutine=false
 gen : fd.scope.isGenerator=false
 pl : plainParams fd.params=true
 nd : ns.Nodup
 par : fd.params.args.map (·.arg)=ns.take (Mine.F f).params
 plen : (Mine.F f).params≤ns.length
 pk : ∀ x∈fd.params.args.map (·.arg),fd.scope.names.lookup x=some .local∨fd.scope.names.lookup x=some .cell
 dflt : ((Mine.F f).dflts=[]∧fd.defaults=.none)∨∃ T o d k dd,fd.defaults=.ref T∧K.lookup T=some o∧o.data=.seq #[d] k∧repOk K dd d=true∧(Mine.F f).dflts=[dd]∧1≤(Mine.F f).params
end
section
variable {names : List (Str × NameKind)} {k : Nat} {acc : List (Str × Addr)} {x : Str} {ko : Str→Option NameKind} {bs : List (Str × Value)} {m : Str→Option Value} {ns : List Str} {us : List Value} {i : Nat} {v : Value}
theorem cells_keep (h : (acc.lookup x).isSome=true) : ((cellsFrom k names acc).lookup x).isSome=true:=by
 induction names generalizing k acc with
 | nil=>exact h
 | cons p r ih=>
  unfold cellsFrom
  split
  ·refine ih ?_
   rw [List.lookup_cons]
   cases x == p.1
   ·exact h
   ·rfl
  ·exact ih h
theorem cells_some (h : names.lookup x=some .cell) : ((cellsFrom k names acc).lookup x).isSome=true:=by
 induction names generalizing k acc with
 | nil=>cases h
 | cons p r ih=>
  obtain ⟨nm,kd⟩:=p
  rw [List.lookup_cons] at h
  unfold cellsFrom
  cases q : x == nm with
  | true=>
   rw [q] at h
   cases h
   rw [if_pos (show (NameKind.cell == NameKind.cell)=true from rfl)]
   refine cells_keep ?_
   rw [List.lookup_cons,q]; rfl
  | false=>
   rw [q] at h
   split
   ·exact ih h
   ·exact ih h
noncomputable def bind1 (p : Str→Bool) (m : Str→Option Value) (b : Str × Value) : Str→Option Value:=if p b.1=true then fun y=>if y=b.1 then some b.2 else m y else m
noncomputable def bindG (p : Str→Bool) (bs : List (Str × Value)) (m : Str→Option Value) : Str→Option Value:=bs.foldl (bind1 p) m
theorem bindG_keep {p : Str→Bool} (h : ∀ b∈bs,b.1 ≠ x) : bindG p bs m x=m x:=by
 induction bs generalizing m with
 | nil=>rfl
 | cons b r ih=>
  refine (ih fun p hp=>h p (.tail _ hp)).trans ?_
  unfold bind1
  split
  ·exact if_neg fun e=>h b (.head _) e.symm
  ·rfl
theorem bindG_get {p : Str→Bool} (nd : ns.Nodup) (h1 : ns[i]?=some x) (h2 : us[i]?=some v) (hk : p x=true) : bindG p (ns.zip us) m x=some v:=by
 induction ns generalizing us m i with
 | nil=>cases h1
 | cons y ns ih=>
  cases us with
  | nil=>cases h2
  | cons u us=>
   have nd:=List.nodup_cons.mp nd
   cases i with
   | zero=>
    cases h1; cases h2
    refine (bindG_keep (bs:=ns.zip us) fun (b : Str × Value) hb (e : b.1=x)=>nd.1 (by rw [← e]; exact (List.of_mem_zip hb).1)).trans ?_
    unfold bind1
    rw [if_pos hk]; exact if_pos rfl
   | succ i=>exact ih nd.2 h1 h2
theorem bindL_eq : bindL ko bs m=bindG (fun x=>ko x == some .local) bs m:=by
 induction bs generalizing m with
 | nil=>rfl
 | cons b r ih=>
  refine ih.trans (congrArg (bindG _ r) ?_)
  exact if q : ko b.1=some .local then by rw [if_pos q]; exact (if_pos (beq_iff_eq.mpr q)).symm else by rw [if_neg q]; exact (if_neg fun z=>q (beq_iff_eq.mp z)).symm
theorem bindC_eq : bindC ko bs m=bindG (fun x=>!(ko x == some .local)) bs m:=by
 induction bs generalizing m with
 | nil=>rfl
 | cons b r ih=>
  refine ih.trans (congrArg (bindG _ r) ?_)
  exact if q : ko b.1=some .local then by rw [if_pos q]; exact (if_neg (show ¬ (!(ko b.1 == some .local))=true by rw [q]; decide)).symm else by rw [if_neg q]; exact (if_pos (show (!(ko b.1 == some .local))=true by rw [show (ko b.1 == some .local)=false from beq_eq_false_iff_ne.mpr q]; rfl)).symm
theorem zipIdx_at {k : Nat} (h : (ns.zipIdx k).lookup x=some i) : k≤i∧ns[i - k]?=some x:=by
 induction ns generalizing k with
 | nil=>cases h
 | cons y ns ih=>
  rw [List.zipIdx_cons,List.lookup_cons] at h
  cases q : x == y with
  | true=>
   rw [q] at h
   cases h
   rw [beq_iff_eq.mp q,Nat.sub_self]
   exact ⟨Nat.le_refl _,rfl⟩
  | false=>
   rw [q] at h
   refine E02 (ih h) fun h1 h2=>⟨Nat.le_of_succ_le h1,?_⟩
   rw [show i - k=(i - (k + 1)) + 1 from (Nat.sub_add_cancel (Nat.sub_pos_of_lt h1) ▸ rfl)]
   exact h2
end
end Mine
namespace Mine
open PySem PySem.W PySem.Calls PyProof.Rows
noncomputable def withCells (I : Imm) (cs : List (Str × Addr)) (h : Heap) : Imm:=fun b=>match I b with
 | some o=>some o
 | none=>if (cs.any fun p=>p.2 == b)=true then h.get? b else none
section
variable {W : Wo} {F : Fx} {C : Cx F} {Γ Γ' : Loc} {I J : Imm} {M : Led} {cs : List (Str × Addr)} {h h' : Heap} {b a : Addr} {o : Obj} {G G' : Gh} {σ σ' : Store} {L L' : Addr} {Fs : Led} {m cm : Str→Option Value} {s s' : Shared} {i : Nat}
theorem withCells_le : Imm.le I (withCells I cs h):=fun b o e=>by unfold withCells; rw [e]
theorem withCells_el {T : Prop} (e : withCells I cs h b=some o) (k1 : I b=some o→T) (k2 : I b=none→(∃ p∈cs,p.2=b)→h.get? b=some o→T) : T:=by
 unfold withCells at e
 cases q : I b with
 | some o'=>rw [q] at e; exact k1 (q.trans e)
 | none=>
  rw [q] at e
  exact if z : (cs.any fun p=>p.2 == b)=true then by
   have e : (if (cs.any fun p=>p.2 == b)=true then h.get? b else none)=some o:=e
   rw [if_pos z] at e
   exact E12 (List.any_eq_true.mp z) fun p hp w=>k2 q ⟨p,hp,eq_of_beq w⟩ e
  else by
   have e : (if (cs.any fun p=>p.2 == b)=true then h.get? b else none)=some o:=e
   rw [if_neg z] at e; cases e
theorem withCells_none (e : I b=none) (hc : ∀ p∈cs,p.2 ≠ b) : withCells I cs h b=none:=by
 cases q : withCells I cs h b with
 | none=>rfl
 | some o=>exact withCells_el q (fun z=>by rw [e] at z; cases z) fun _ z _=>E12 z fun p hp w=>absurd w (hc p hp)
theorem withCells_at {p : Str × Addr} (hp : p∈cs) (e : I p.2=none) : withCells I cs h p.2=h.get? p.2:=by
 unfold withCells; rw [e]
 exact if_pos (List.any_eq_true.mpr ⟨p,hp,beq_self_eq_true p.2⟩)
theorem St.size (X : St W G σ L Fs h) {p : Addr × Cell} (hp : p∈led L G Fs) : p.1 < h.objs.size:=E11 (X.inv.live hp) fun o ho=>Heap.lt_size ho
theorem St.enter (X : St W G σ L Fs s.heap) (x : InCallC s s.heap.objs.size m cs cm s') : St W ⟨withCells G.I cs s'.heap,G.M,m⟩ σ s.heap.objs.size ((L,.ns G.m) :: Fs) s'.heap:=by
 have k:=x.toInCall.keep
 have N:=X.inv.keeps k
 have above : ∀ p∈cs,s.heap.objs.size < p.2:=fun p hp=>x.above p.1 p.2 hp
 have N2 : Inv W (withCells G.I cs s'.heap) (led L G Fs) s'.heap:=⟨fun b o e=>withCells_el e (N.imm b o) fun _ _ e=>e,fun p hp=>⟨withCells_none (N.mu p hp).1 fun q hq e=>Nat.lt_irrefl _ (Nat.lt_trans (e ▸ above q hq) (X.size hp)),(N.mu p hp).2⟩,N.nd⟩
 have f : New (withCells G.I cs s'.heap) (led L G Fs) s.heap.objs.size:=⟨withCells_none (X.inv.fresh (get_size s.heap)).i fun p hp e=>Nat.lt_irrefl _ (e ▸ above p hp),fun p hp e=>Nat.lt_irrefl _ (e ▸ X.size hp)⟩
 exact ⟨(N2.addM (c:=.ns m) x.toInCall.ns f).perm (.cons _ List.perm_middle),fun i e q=>E12 (X.ent i e q) fun p hp r=>⟨p,hp,r.mono (fun b o e _=>withCells_le b o e) List.prefix_rfl⟩,X.len,Nat.le_of_lt (Nat.lt_of_le_of_lt X.above (X.size (.head _))),fun b o e=>withCells_le _ _ (X.base b o e),X.wf⟩
noncomputable def Gh.cut (G G' : Gh) : Gh:=⟨G'.I,G'.M.take G.M.length,G.m⟩
theorem cut_α (p : G.α <+: G'.α) : (G'.M.take G.M.length).map (·.1)=G.α:=by
 have e : G.M.length=G.α.length:=(List.length_map _).symm
 rw [List.map_take,e]
 exact E11 p fun t ht=>(congrArg (List.take _) ht.symm).trans List.take_left
theorem St.leave (X : St W G σ L Fs h) (le : Gh.leX G G') (X' : St W G' σ' L' ((L,.ns G.m) :: Fs) h') : St W (G.cut G') (σ'.take σ.length) L Fs h'∧Gh.le G (G.cut G'):=by
 have eα:=cut_α le.α
 refine ⟨⟨?_,fun i e q=>?_,by show (G'.M.take G.M.length).length=_; rw [List.length_take,List.length_take,X'.len,X.len],X.above,X'.base,X'.wf.take _⟩,⟨le.I,by show G.α <+: (G'.M.take G.M.length).map (·.1); rw [eα]; exact List.prefix_rfl⟩,rfl⟩
 ·have sub : List.Sublist (G'.M.take G.M.length ++ (L,Cell.ns G.m) :: Fs) (led L' G' ((L,.ns G.m) :: Fs)):=.cons _ (.append (List.take_sublist _ _) (List.Sublist.refl _))
  exact (X'.inv.forget sub).perm List.perm_middle.symm
 ·have q:=take_el q
  refine E12 (X'.ent i e q.2) fun p hp r=>⟨p,by show (G'.M.take G.M.length)[i]?=_; rw [X.len,List.getElem?_take_of_lt q.1]; exact hp,?_⟩
  show EntRel G'.I ((G'.M.take G.M.length).map (·.1)) p.2 e
  cases e with
  | lst xs=>exact r
  | wd rr a=>exact E12 r fun ra e1 e2=>⟨ra,e1,by rw [List.map_take,X.len,List.getElem?_take_of_lt (Nat.lt_trans (X'.wf i rr a q.2) q.1)]; exact e2⟩
theorem St.leaveAll (X : St W G σ L Fs h) (le : Gh.leX G G') (X' : St W G' σ' L' ((L,.ns G.m) :: Fs) h') : St W { G' with m:=G.m } σ' L Fs h'∧Gh.le G { G' with m:=G.m }:=
 ⟨⟨(X'.inv.forget (List.sublist_cons_self _ _)).perm List.perm_middle.symm,X'.ent,X'.len,X.above,X'.base,X'.wf⟩,⟨le.I,le.α⟩,rfl⟩
theorem St.own {c : Cell} (X : St W G σ L Fs h) (le : Gh.leX G G') (X' : St W G' σ' L' ((L,.ns G.m) :: Fs) h') (hi : G'.M[i]?=some (a,c)) (hl : σ.length≤i) : New G'.I (led L (G.cut G') Fs) a:=by
 refine ⟨((X'.outM hi).mu _ (.head _)).1,fun p hp=>(X'.outM hi).tail.2.m p (.tail _ ?_)⟩
 have hi' : G.M.length≤i:=X.len ▸ hl
 rcases List.mem_cons.mp hp with e | hp
 ·exact List.mem_append_right _ (e ▸ .head _)
 ·rcases List.mem_append.mp hp with hp | hp
  ·exact List.mem_append_left _ (List.mem_append_left _ ((List.take_sublist_take_left hi').subset hp))
  ·exact List.mem_append_right _ (.tail _ hp)
end
end Mine
namespace Mine
open PySem PySem.W PySem.Calls PyProof.Rows
section
variable {W : Wo} {F : Fx} {C : Cx F} {Γ Γ' : Loc} {S : Sx W C Γ} {f : Fn} {fd : FuncData} {body : List Stmt} {ns : List Str} {us us' : List V} {cvs vs' : List Value} {env : Env} {n : Nat} {Df : Fn→List V→Store→Ke→Kv→Prop}
theorem revK_el {α : Type} {k : List V→α} : ∀ (vs acc : List V),revK vs acc k=k (vs.reverse ++ acc):=fun vs=>by
 induction vs with
 | nil=>exact fun _=>rfl
 | cons v vs ih=>exact fun acc=>(ih _).trans (by rw [List.reverse_cons,List.append_assoc]; rfl)
theorem dflK_el {α : Type} {k : List V→α} : ∀ (ds : List D) (acc : List V),dflK ds acc k=k ((ds.map V.d).reverse ++ acc):=fun vs=>by
 induction vs with
 | nil=>exact fun _=>rfl
 | cons v vs ih=>exact fun acc=>(ih _).trans (by rw [List.map_cons,List.reverse_cons,List.append_assoc]; rfl)
theorem noneK_el {α : Type} {k : Loc→α} : ∀ (n : Nat) (acc : Loc),noneK n acc k=k (List.replicate n none ++ acc):=fun n=>by
 induction n with
 | zero=>exact fun _=>rfl
 | succ n ih=>exact fun acc=>(ih _).trans (by rw [List.replicate_succ',List.append_assoc]; rfl)
theorem pushK_el {α : Type} {k : Loc→α} : ∀ (vs : List V) (acc : Loc),pushK vs acc k=k ((vs.map some).reverse ++ acc):=fun vs=>by
 induction vs with
 | nil=>exact fun _=>rfl
 | cons v vs ih=>exact fun acc=>(ih _).trans (by rw [List.map_cons,List.reverse_cons,List.append_assoc]; rfl)
theorem bindV_inv {fd : FD} {us : List V} {Γ : Loc} {T : Prop} (h : bindV fd us=some Γ) (k : us.length≤fd.params→fd.params≤us.length + fd.dflts.length→Γ=((us ++ (fd.dflts.drop (us.length + fd.dflts.length - fd.params)).map V.d).map some) ++ List.replicate (fd.slots - fd.params) none→T) : T:=by
 unfold bindV at h
 exact if c : us.length≤fd.params∧fd.params≤us.length + fd.dflts.length then by
  rw [if_pos c,revK_el,dflK_el,noneK_el,pushK_el,pushK_el] at h
  refine k c.1 c.2 ((Option.some.inj h).symm.trans ?_)
  rw [List.append_nil,List.append_nil,List.append_nil,List.map_reverse,List.reverse_reverse,List.map_reverse,List.reverse_reverse,List.map_append,List.append_assoc]
 else by rw [if_neg c] at h; cases h
theorem args_of {T : Prop} (ok : FnOk W.K f fd body ns) (rvs : RepVs W S.G.I S.G.α cvs us) (hΓ : bindV (Mine.F f) us=some Γ')
  (k : ∀ vs' us',BindsTo S.s fd ⟨cvs,[]⟩ ((fd.params.args.map (·.arg)).zip vs')→RepVs W S.G.I S.G.α vs' us'→us'.length=(Mine.F f).params→Γ'=(us'.map some) ++ List.replicate ((Mine.F f).slots - (Mine.F f).params) none→T) : T:=
 bindV_inv hΓ fun h1 h2 eΓ=>by
  have hpl : fd.params.args.length=(Mine.F f).params:=by
   rw [← List.length_map (as:=fd.params.args) (f:=(·.arg)),ok.par,List.length_take]; exact Nat.min_eq_left ok.plen
  have nd : (fd.params.args.map (·.arg)).Nodup:=by rw [ok.par]; exact ok.nd.sublist (List.take_sublist _ _)
  have hl:=rvs.length
  rcases ok.dflt with ⟨hd0,hdn⟩ | ⟨T',oT,d,kk,dd,hd1,hT,hs,hrep,hd2,h1p⟩
  ·rw [hd0] at h2 eΓ
   have he : us.length=(Mine.F f).params:=Nat.le_antisymm h1 h2
   refine k cvs us (binds_of ok.pl nd (dv:=[]) (fun M A E Q hQ=>by rw [hdn]; exact wpAny_pure (hQ none rfl)) (.inl ⟨Nat.zero_le _,hl.trans (he.trans hpl.symm),rfl⟩)) rvs he ?_
   rw [eΓ,List.drop_nil,List.map_nil,List.append_nil]
  ·have hD : DefOf S.s fd.defaults [d]:=fun M A E Q hQ=>by
    rw [hd1]; exact wpAny_seqItems (S.X.base_get (W.kin _ _ hT)) hs (hQ _ rfl)
   rw [hd2] at h2 eΓ
   by_cases he : us.length=(Mine.F f).params
   ·refine k cvs us (binds_of ok.pl nd hD (.inl ⟨Nat.le_trans h1p (Nat.le_of_eq hpl.symm),hl.trans (he.trans hpl.symm),rfl⟩)) rvs he ?_
    rw [eΓ,he,Nat.add_sub_cancel_left]
    exact congrArg (fun l=>List.map some l ++ _) (List.append_nil us)
   ·have he2 : us.length + 1=(Mine.F f).params:=Nat.le_antisymm (Nat.lt_of_le_of_ne h1 he) h2
    refine k (cvs ++ [d]) (us ++ [.d dd]) (binds_of ok.pl nd hD (.inr ⟨d,rfl,(congrArg (· + 1) hl).trans (he2.trans hpl.symm),rfl⟩)) (rvs.append (RepVs.cons (xs:=[]) (.d ((rep_of W.kin _ _ hrep).mono S.X.base)) rfl)) ((List.length_append ..).trans he2) ?_
    rw [eΓ,show us.length + [dd].length - (Mine.F f).params=0 from Nat.sub_eq_zero_of_le (Nat.le_of_eq he2)]; rfl
theorem FnOk.frame {s0 : Shared} (ok : FnOk W.K f fd body ns) {m cm : Str→Option Value} {s' : Shared} {cs : List (Str × Addr)} {I : Imm} {α : List Addr} (hsc : env.scope=fd.scope) (hcs : env.cells=cs) (hcs' : cs=cellsFrom (s0.heap.objs.size + 1) fd.scope.names [])
  (hm : m=bindL env.kindOf ((fd.params.args.map (·.arg)).zip vs') fun _=>none) (hcm : cm=bindC env.kindOf ((fd.params.args.map (·.arg)).zip vs') fun _=>none)
  (x : InCallC s0 s0.heap.objs.size m cs cm s') (hI : ∀ p∈cs,I p.2=none) (r : RepVs W I α vs' us') (hl : us'.length=(Mine.F f).params) :
  FrRel W env ns.zipIdx ((us'.map some) ++ List.replicate ((Mine.F f).slots - (Mine.F f).params) none) (withCells I cs s'.heap) α m:=fun y i v hy hv=>by
 have hi:=(zipIdx_at hy).2
 rw [Nat.sub_zero] at hi
 have hip : i < us'.length:=by
  rcases Nat.lt_or_ge i us'.length with h | h
  ·exact h
  ·rw [List.getElem?_append_right (by rw [List.length_map]; exact h),List.getElem?_replicate] at hv
   split at hv <;> cases hv
 rw [List.getElem?_append_left (by rw [List.length_map]; exact hip),List.getElem?_map] at hv
 refine E12 (Option.map_eq_some_iff.mp hv) fun u hu e=>?_
 cases e
 refine E12 (r.get hu) fun cv hcv rv=>?_
 have hpar : (fd.params.args.map (·.arg))[i]?=some y:=by rw [ok.par,List.getElem?_take_of_lt (hl ▸ hip)]; exact hi
 have nd : (fd.params.args.map (·.arg)).Nodup:=by rw [ok.par]; exact ok.nd.sublist (List.take_sublist _ _)
 refine ⟨cv,?_,rv.mono withCells_le List.prefix_rfl⟩
 have hko : env.kindOf y=fd.scope.names.lookup y:=congrArg (fun s=>s.names.lookup y) hsc
 rcases ok.pk y (List.mem_of_getElem? hpar) with hk | hk
 ·exact .inl ⟨hko.trans hk,by rw [hm,bindL_eq]; exact bindG_get nd hpar hcv (beq_iff_eq.mpr (hko.trans hk))⟩
 ·refine .inr ⟨.inl (hko.trans hk),?_⟩
  refine E11 (Option.isSome_iff_exists.mp (by rw [hcs']; exact cells_some hk : (cs.lookup y).isSome=true)) fun c hc=>?_
  have hcell:=x.cell y c hc
  rw [show cm y=some cv by rw [hcm,bindC_eq]; exact bindG_get nd hpar hcv (by rw [hko.trans hk]; rfl)] at hcell
  exact E12 hcell fun o ho hd=>⟨c,o,hcs ▸ hc,(withCells_at (mem_of_lookup hc) (hI _ (mem_of_lookup hc))).trans ho,hd⟩
theorem Cx.room (C : Cx F) (hn : F.n=n + 1) (k : env.scope.kind=.function) {a : Addr} (e : env.frame=some a) {m : Str→Option Value} : Room (C.A.deeper env) n (env :: C.fr) a ((C.L,.ns m) :: C.Fs):=by
 have hr:=C.r
 rw [hn] at hr
 refine ⟨hr.handled,?_,?_,?_,fun e' he=>?_⟩
 ·have:=hr.depth; show C.A.depth + 1 + n + 20 < recursionLimit; lia
 ·have:=hr.units; show C.A.units + 3 + 8 * n + 400 < cLine; lia
 ·show C.A.frames.map (env :: ·)=_; rw [hr.frames]; rfl
 ·rcases List.mem_cons.mp he with rfl | he
  ·exact ⟨by rw [k]; decide,a,e,.inl rfl⟩
  ·exact E02 (hr.kinds e' he) fun k1 k2=>⟨k1,E12 k2 fun L' e1 e2=>⟨L',e1,.inr (e2.elim (fun q=>⟨m,q ▸ .head _⟩) fun h=>E11 h fun m hm=>⟨m,.tail _ hm⟩)⟩⟩
theorem leave_out {F' : Fx} {C' : Cx F'} {Γ1 Γ2 : Loc} {S1 : Sx W C' Γ1} {S2 : Sx W C' Γ2} {K : Kv} {Q : Value→Shared→Prop} (hF : C'.Fs=(C.L,.ns S.G.m) :: C.Fs) (l1 : Gh.leX S.G S1.G) (s1 : Sm S.s S1.s) (l2 : LeX S1 S2) (hQ : OutV S Q K) :
  (∀ {v cv},RepV W S2.G.I (S.G.cut S2.G).α cv v→K v (S2.σ.take S.σ.length)→Q cv S2.s)∧(∀ {v cv},S2.rep cv v→K v S2.σ→Q cv S2.s)∧(∀ {i xs cv},S2.rep cv (.l i)→¬ i < S.σ.length→S2.σ[i]?=some (.lst xs)→K (.d (.lst xs)) (S2.σ.take S.σ.length)→Q cv S2.s):=by
 have X2:=S2.X
 rw [hF] at X2
 have le:=l1.trans l2.g
 have sm:=s1.trans l2.s
 have c:=S.X.leave le X2
 refine ⟨fun r h=>hQ _ _ ⟨S.G.cut S2.G,S2.σ.take S.σ.length,S2.s,c.1,S.f.le c.2⟩ ⟨c.2,sm⟩ r h,fun r h=>E02 (S.X.leaveAll le X2) fun X3 le3=>hQ _ _ ⟨_,S2.σ,S2.s,X3,S.f.le le3⟩ ⟨le3,sm⟩ r h,fun {i xs cv} r hi hx h=>?_⟩
 refine E12 r fun a ea ha=>S2.X.el hx fun a' cc h3 h4 er ca=>E13 er fun vs ev rs hl=>?_
 subst ev; subst ea
 rw [ha] at h4; cases h4
 exact E11 ca fun nn ho=>E02 (c.1.freezeI ho (S.X.own le X2 h3 (Nat.le_of_not_lt hi))) fun X5 le5=>
  have le6:=c.2.trans le5
  hQ _ _ ⟨_,S2.σ.take S.σ.length,S2.s,X5,S.f.le le6⟩ ⟨le6,sm⟩ (.d (.lst (vs:=vs) (n:=nn) (if_pos rfl) rfl rfl (rs.mono le5.I) hl)) h
end
end Mine
namespace Mine
open PySem PySem.W PySem.Calls PyProof.Rows
section
variable {W : Wo} {F : Fx} {C : Cx F} {Γ Γ' : Loc} {S : Sx W C Γ} {f : Fn} {fd : FuncData} {body : List Stmt} {ns : List Str} {us us' : List V} {cvs vs' : List Value} {env : Env} {n : Nat} {Df : Fn→List V→Store→Ke→Kv→Prop}
theorem br_el {b : Bool} {P P' T : Prop} (h : Br b P P') (k : b=true→P→T) (k' : b=false→P'→T) : T:=by
 cases b with
 | true=>exact k rfl h
 | false=>exact k' rfl h
theorem ls_el {σ : Store} {i : Nat} {K : List D→Prop} {T : Prop} (h : Ls σ i K) (k : ∀ xs,σ[i]?=some (.lst xs)→K xs→T) : T:=op_el h fun e he h=>by
 cases e with
 | lst xs=>exact k xs he h
 | wd r a=>exact h.elim
noncomputable def flowQ (Q : Value→Shared→Prop) (s : Shared) : Flow→Prop
 | .ret v=>Q v s
 | .next=>Q .none s
 | _=>False
theorem cut_get {G G' : Gh} {i : Nat} {a : Addr} (hi : i < G.M.length) (e : G'.α[i]?=some a) : (G.cut G').α[i]?=some a:=by
 show ((G'.M.take G.M.length).map (·.1))[i]?=_
 rw [List.map_take,List.getElem?_take_of_lt hi]; exact e
theorem zd_el {F' : Fx} {C' : Cx F'} {Γ1 Γ2 : Loc} {S1 : Sx W C' Γ1} {S2 : Sx W C' Γ2} {K : Kv} {Q : Value→Shared→Prop} {k : Bool} {cv : Value} {v : V} (hF : C'.Fs=(C.L,.ns S.G.m) :: C.Fs) (l1 : Gh.leX S.G S1.G) (s1 : Sm S.s S1.s) (l2 : LeX S1 S2) (hQ : OutV S Q K)
  (r : S2.rep cv v) (h : Zd S.σ.length K k v S2.σ) : Q cv S2.s:=by
 have o:=leave_out hF l1 s1 l2 hQ
 unfold Zd at h
 exact br_el h (fun _ h=>by
  cases v with
  | l i=>exact o.2.1 r h
  | w i=>exact o.2.1 r h
  | _=>exact h.elim) fun _ h=>by
  cases v with
  | d x=>exact o.1 (v:=.d x) r h
  | l i=>exact br_el h (fun hi h=>E12 r fun a ea ha=>o.1 (v:=.l i) ⟨a,ea,cut_get (S.X.len ▸ of_decide_eq_true hi) ha⟩ h) fun hi h=>ls_el h fun xs hx h=>o.2.2 r (of_decide_eq_false hi) hx h
  | _=>exact h.elim
theorem call_step {B : Prop→Prop} (ok : FnOk W.K f fd body ns) (hb : ∀ env : Env,env.scope=fd.scope→SndSs W ⟨n,env,ns.zipIdx⟩ body (wSs B Df (Mine.F f).body))
  (hn : F.n=n + 1) (rvs : RepVs W S.G.I S.G.α cvs us) {KE : Ke} {K : Kv} (h : ClF B Df f us S.σ KE K) {Q E : Value→Shared→Prop} (hQ : OutV S Q K) (hE : OutE S E KE) : wpAny W.m C.A (call (.ref (fa W.K f)) cvs) Q E S.s:=
 op_el h fun Γ1 hΓ h=>E12 ok.obj fun o hob hod=>args_of ok rvs hΓ fun vs' us' hbind rvs' hlen' eΓ=>by
  have X:=S.X
  have ho : S.s.heap.get? (fa W.K f)=some o:=X.base_get (W.kin _ _ hob)
  refine wpAny_call (codeAny_call_function (fd:=fd) (by have:=C.r.depth; rw [hn] at this; lia) ho hod ok.co ok.gen ok.body (codeRec_of (W.kin.keeps fun b o e=>X.base_get e) ok.code) ?_)
  refine hbind _ _ _ _ ?_
  rw [ok.clo]
  refine wpAny_newFunctionEnv_cells ok.kind (fun y hy=>(ok.pk y.1 (List.of_mem_zip hy).1).imp id fun hk=>⟨hk,cells_some hk⟩) fun env henv s' x=>?_
  have e1 : env.scope=fd.scope:=congrArg Env.scope henv
  have e2 : env.locals=S.s.heap.objs.size:=congrArg Env.locals henv
  have e3 : env.cells=cellsFrom (S.s.heap.objs.size + 1) fd.scope.names []:=congrArg Env.cells henv
  have e4 : env.frame=some S.s.heap.objs.size:=congrArg Env.frame henv
  have e5 : env.globals=mainGlobals:=(congrArg Env.globals henv).trans ok.glob
  have e6 : env.builtins=builtinsNs:=(congrArg Env.builtins henv).trans ok.bi
  rw [e2] at x
  refine ⟨W.nolimit.keeps fun b o e=>x.toInCall.keep b o (X.base_get e),codeAny_func ?_⟩
  have hcI : ∀ p∈env.cells,S.G.I p.2=none:=fun p hp=>by
   cases q : S.G.I p.2 with
   | none=>rfl
   | some o=>exact absurd (Nat.lt_trans (Heap.lt_size (X.inv.imm _ _ q)) (x.above p.1 p.2 hp)) (Nat.lt_irrefl _)
  have fr1:=ok.frame (s0:=S.s) (α:=S.G.α) (I:=S.G.I) e1 rfl e3 rfl rfl x hcI rvs' hlen'
  have hcl : ∀ y,env.kindOf y=some .cell∨env.kindOf y=some .free→(env.cells.lookup y).isSome=true:=fun y hy=>by
   rw [show env.kindOf y=fd.scope.names.lookup y from congrArg (fun s=>s.names.lookup y) e1] at hy
   exact hy.elim (fun hy=>by rw [e3]; exact cells_some hy) fun hy=>absurd hy (ok.nofree y)
  let C' : Cx ⟨n,env,ns.zipIdx⟩:=⟨C.A.deeper env,env :: C.fr,S.s.heap.objs.size,(C.L,.ns S.G.m) :: C.Fs,C.room hn (e1 ▸ ok.kind) e4,⟨e1 ▸ ok.kind,e2,e5,e6,hcl⟩⟩
  have fs : Fst C':=⟨⟨_,rfl⟩,e4⟩
  rw [eΓ] at h
  let S1 : Sx W C' ((us'.map some) ++ List.replicate ((Mine.F f).slots - (Mine.F f).params) none):=⟨_,S.σ,s',X.enter x,fr1⟩
  have l1 : Gh.leX S.G S1.G:=⟨withCells_le,List.prefix_rfl⟩
  have s1 : Sm S.s S1.s:=E21 x.toInCall.same fun h₁ tk₁ q=>by unfold Sm; rw [show S1.s=s' from rfl,q]
  refine hb env e1 fs S1 h ⟨fun {Γ'} S2 l2 h=>?_,fun {Γ'} S2 l2 h=>h.elim,fun {Γ'} S2 k cv v l2 r h=>?_⟩ fun {Γ'} S2 y l2 fl h=>?_
  ·exact (leave_out rfl l1 s1 l2 hQ).1 (v:=.d .none) rfl h
  ·exact zd_el rfl l1 s1 l2 hQ r h
  ·refine leave_wp fs fl fun S3 l3 e3 fl3=>?_
   have l23 : LeX S1 S3:=l2.trans l3.x
   have c:=X.leave (l1.trans l23.g) S3.X
   exact hE ⟨S.G.cut S3.G,S3.σ.take S.σ.length,S3.s,c.1,S.f.le c.2⟩ y ⟨c.2,s1.trans l23.s⟩ (fl3 _) (show KE (S3.σ.take S.σ.length) from e3.symm ▸ h)
end
end Mine
namespace Mine
open PySem PySem.W PySem.Calls PyProof.Rows
noncomputable def okK1 (K : Frag) (f : Fn) : Bool:=keepIn K (.ref (fa K f))
noncomputable def okWm (K : Frag) (f : Fn) : Bool:=(findIn K (.ref (wordsC K)) (fnNm f) == some (some (.ref (fa K f)))) && (isFn K (.ref (fa K f)) && keepIn K (.ref (fa K f)))
noncomputable def okW (K : Frag) : Bool:=(plainGet K (wordsC K) "x" && hasDictIn K (wordsC K)) && ((findIn K (.ref (wordsC K)) "rows" == some none && findIn K (.ref (wordsC K)) "at" == some none) && wms.all (okWm K))
theorem okW_wm {K : Frag} {f : Fn} (h : okW K=true) (hf : isWm f=true) : okWm K f=true:=List.all_eq_true.mp (a2 (a2 h)) f (List.contains_iff_mem.mp hf)
section
variable {W : Wo} {F : Fx} {C : Cx F} {Γ : Loc} {S : Sx W C Γ} {Q E : Value→Shared→Prop} {np pos apos : Pos} {e o : PySem.Expr} {es : List PySem.Expr} {x : Str} {i j rr : Nat} {a : Int} {v : V} {cv : Value} {T : Prop} {fn : Fn} {f : Loc→Store→Ke→Kv→Prop} {g : Loc→Store→Ke→(List V→Store→Prop)→Prop} {D : Fn→List V→Store→Ke→Kv→Prop}
theorem Sx.kin (S : Sx W C Γ) : W.K.In S.s.heap:=W.kin.keeps fun b o e=>S.X.base_get e
theorem callF_wp {f : Value} {first : List Value} (hk : keepIn W.K f=true) (hs : Plains F.env (e :: es)) {s : Shared}
  (h : wpAny W.m C.A (spliced (backTo pos (starEach (e :: es) F.env))) (fun vs s₁=>W.K.In s₁.heap∧wpAny W.m C.A (call f (first ++ vs)) Q E s₁) E s) : wpAny W.m C.A (callWith pos f first (backTo pos (starEach (e :: es) F.env)) []) Q E s:=
 callWith_K W.kin hk h (hs e (.head _) es) (plain_stars fun x hx=>hs x (.tail _ hx)).1
theorem callD_wp (hF : SndF W F.n D) {Γ : Loc} {S : Sx W C Γ} (hk : okK1 W.K fn=true) (hs : Plains F.env (e :: es)) (h2 : SndR W F (e :: es) g) {KE : Ke} {K : Kv} (h : g Γ S.σ KE fun vs σ=>D fn vs σ KE K) (hQ : OutV S Q K) (hE : OutE S E KE) : wpAny W.m C.A (callWith pos (.ref (fa W.K fn)) [] (backTo pos (starEach (e :: es) F.env)) []) Q E S.s:=
 callF_wp hk hs (h2 S h (fun us cvs S1 l1 r1 h=>⟨S1.kin,hF fn S1 rfl r1 h (hQ.up l1) (hE.up l1)⟩) hE)
theorem snd_call (hF : SndF W F.n D) (ok : okF1 W.K fn=true) (hw : isWm fn=false) (hk : okK1 W.K fn=true) (hx : F.env.kindOf (fnNm fn)=some .globalImplicit) (hs : Plains F.env (e :: es)) (h2 : SndR W F (e :: es) g) :
  SndE W F (.Call (.Name (fnNm fn) np) (e :: es) [] pos) (fun Γ σ E K=>g Γ σ E fun vs σ=>D fn vs σ E K):=fun S KE K h Q E hQ hE=>
 Call_Name rfl (wp_global hx (fnNm_debug fn) (fa_global ok hw) (callD_wp hF hk hs h2 h hQ hE))
theorem Vf_el {K : Fn→Prop} (h : Vf v K) (r : S.rep cv v) (k : ∀ f,cv=.ref (fa W.K f)→isWm f=false→K f→T) : T:=by
 induction v with
 | fn f=>exact k f r.1 r.2 h
 | _=>exact h.elim
theorem snd_callV (hF : SndF W F.n D) (hk : ∀ f,okK1 W.K f=true) (hv : F.vs.lookup x=some i) (hd : (x == ("__debug__" : Str))=false) (hs : Plains F.env (e :: es)) (h2 : SndR W F (e :: es) g) :
  SndE W F (.Call (.Name x np) (e :: es) [] pos) (fun Γ σ E K=>Lk Γ i fun v=>Vf v fun f=>g Γ σ E fun vs σ=>D f vs σ E K):=fun S KE K h Q E hQ hE=>
 Lk_el h fun v hΓ h=>E12 (S.f x i v hv hΓ) fun cv hl r=>Call_Name rfl (hl.name hd (Vf_el h r fun f e _ h=>e ▸ callD_wp hF (hk f) hs h2 h hQ hE))
theorem Vw_el {K : Nat→Prop} (h : Vw v K) (r : S.rep cv v) (k : ∀ j,S.rep cv (.w j)→K j→T) : T:=by
 induction v with
 | w j=>exact k j r h
 | _=>exact h.elim
theorem wd_el {σ : Store} {K : Nat→Int→Prop} (h : Wd σ j K) (k : ∀ r a,σ[j]?=some (.wd r a)→K r a→T) : T:=op_el h fun e he h=>by
 cases e with
 | lst xs=>exact h.elim
 | wd r a=>exact k r a he h
theorem word_at {T : Value→Prop} (r : S.rep cv (.w j)) (e : S.σ[j]?=some (.wd rr a))
  (k : ∀ x dx ra od,S.G.M[j]?=some (dx,.wd ra a)→S.G.α[rr]?=some ra→InstAt S.s.heap x (instObj (wordsC W.K) dx) (wordsC W.K) (some od)→WdObj W.w.params ra a od→T (.ref x)) : T cv:=
 E12 r fun dx h1 h2=>h2.el fun x o hI ho=>S.X.el e fun dx' c q1 q2 er ca=>E12 er fun ra ec hrr=>by
  rw [h1] at q2; cases q2
  subst ec
  subst ho
  exact E12 ca fun od hod hwd=>k x dx ra od q1 hrr ⟨S.X.inv.imm _ _ hI,rfl,rfl,hod⟩ hwd
theorem look_rows {P : Params} {ra : Addr} {od : Obj} (h : WdObj P ra a od) : lookIn "rows" od=some (some (.ref ra)):=h.el fun t1 t2 t3 k sl q=>q ▸ rfl
theorem look_at {P : Params} {ra : Addr} {od : Obj} (h : WdObj P ra a od) : ∃ t,lookIn "at" od=some (some (.int a t)):=h.el fun t1 t2 t3 k sl q=>q ▸ ⟨t3,rfl⟩
theorem look_wm {P : Params} {ra : Addr} {od : Obj} (h : WdObj P ra a od) {f : Fn} (hf : isWm f=true) : lookIn (fnNm f) od=some none:=h.el fun t1 t2 t3 k sl q=>by
 subst q
 refine (?_ : ∀ f∈wms,lookIn (fnNm f) _=some none) f (List.contains_iff_mem.mp hf)
 exact List.forall_mem_cons.mpr ⟨rfl,List.forall_mem_cons.mpr ⟨rfl,List.forall_mem_cons.mpr ⟨rfl,List.forall_mem_cons.mpr ⟨rfl,List.forall_mem_cons.mpr ⟨rfl,List.forall_mem_cons.mpr ⟨rfl,fun _ h=>nomatch h⟩⟩⟩⟩⟩⟩
theorem attr_wp {attr : Str} {s : Shared} (hb : ∀ attr whole,attributeBase o attr F.env whole=whole) (h : wpAny W.m C.A (eval o F.env) (fun v s₁=>wpAny W.m C.A (getAttr v attr true) Q E s₁) E s) : wpAny W.m C.A (eval (.Attribute o attr pos) F.env) Q E s:=by
 refine Attribute_any_ h ?_
 rw [arm_eval_Attribute,hb]
theorem snd_rows (ok : okW W.K=true) (hb : ∀ attr whole,attributeBase o attr F.env whole=whole) (h1 : SndE W F o f) : SndE W F (.Attribute o "rows" pos) (fun Γ σ E K=>f Γ σ E fun x σ=>Vw x fun j=>Wd σ j fun r _=>K (.l r) σ):=fun S KE K h Q E hQ hE=>
 attr_wp hb (h1 S h (fun v cv S1 l1 r1 h=>Vw_el h r1 fun j r1 h=>wd_el h fun rr a hj h=>word_at (T:=fun cv=>wpAny W.m _ (getAttr cv "rows" true) Q E S1.s) r1 hj fun x dx ra od q2 q3 I wd=>
  get_value S1.kin I (plainGet_of (a1 (a1 ok))).1 (findObj_own (a2 (a1 ok)) (eq_of_beq (a1 (a1 (a2 ok)))) rfl (look_rows wd)) rfl (((hQ.up l1).at h).now (.l q3))) hE)
theorem snd_wat (ok : okW W.K=true) (hb : ∀ attr whole,attributeBase o attr F.env whole=whole) (h1 : SndE W F o f) : SndE W F (.Attribute o "at" pos) (fun Γ σ E K=>f Γ σ E fun x σ=>Vw x fun j=>Wd σ j fun _ a=>K (.d (.int a)) σ):=fun S KE K h Q E hQ hE=>
 attr_wp hb (h1 S h (fun v cv S1 l1 r1 h=>Vw_el h r1 fun j r1 h=>wd_el h fun rr a hj h=>word_at (T:=fun cv=>wpAny W.m _ (getAttr cv "at" true) Q E S1.s) r1 hj fun x dx ra od q2 q3 I wd=>E11 (look_at wd) fun t hat=>
  get_value S1.kin I (plainGet_of (a1 (a1 ok))).1 (findObj_own (a2 (a1 ok)) (eq_of_beq (a2 (a1 (a2 ok)))) rfl hat) rfl (((hQ.up l1).at h).now (.d (.int _ _)))) hE)
theorem getW_wp {pl : Sem Bool} {Q : Value × List Value→Shared→Prop} (ok : okW W.K=true) (hf : isWm fn=true) (r : S.rep cv (.w j)) (e : S.σ[j]?=some (.wd rr a)) (h : Q (.ref (fa W.K fn),[cv]) S.s) : wpAny W.m C.A (getMethod cv (fnNm fn) pl) Q E S.s:=
 word_at (T:=fun cv=>Q (.ref (fa W.K fn),[cv]) S.s→wpAny W.m C.A (getMethod cv (fnNm fn) pl) Q E S.s) r e (fun x dx ra od q2 q3 I wd h=>
  have ok1:=okW_wm ok hf
  have hp:=plainGet_of (a1 (a1 ok))
  method_fn S.kin I hp.1 hp.2 (eq_of_beq (a1 ok1)) (eq_of_beq (a1 (a2 ok1))) (by show (lookIn (fnNm fn) od).map _=_; rw [look_wm wd hf]; rfl) h) h
theorem snd_wm0 (ok : okW W.K=true) (hF : SndF W F.n D) (hw : isWm fn=true) (hb : ∀ attr whole,attributeBase o attr F.env whole=whole) (hl : (apos.endLine == pos.line)=true) (h1 : SndE W F o f) :
  SndE W F (.Call (.Attribute o (fnNm fn) apos) [] [] pos) (fun Γ σ E K=>f Γ σ E fun x σ=>Vw x fun j=>Wd σ j fun _ _=>D fn [.w j] σ E K):=fun S KE K h Q E hQ hE=>
 mcall_wp hb hl Plains.nil rfl (h1 S h (fun v cv S1 l1 r1 h=>Vw_el h r1 fun j r1 h=>wd_el h fun rr a hj h=>
  getW_wp ok hw r1 hj (callWith_K0 S1.kin (a2 (a2 (okW_wm ok hw))) (hF fn S1 rfl (RepVs.cons (xs:=[]) r1 rfl) h (hQ.up l1) (hE.up l1)))) hE)
theorem snd_wm (ok : okW W.K=true) (hF : SndF W F.n D) (hw : isWm fn=true) (hb : ∀ attr whole,attributeBase o attr F.env whole=whole) (hl : (apos.endLine == pos.line)=true) (hs : Plains F.env (e :: es)) (hn : decide ((e :: es).length < 30)=true) (h1 : SndE W F o f) (h2 : SndR W F (e :: es) g) :
  SndE W F (.Call (.Attribute o (fnNm fn) apos) (e :: es) [] pos) (fun Γ σ E K=>f Γ σ E fun x σ=>Vw x fun j=>Wd σ j fun _ _=>g Γ σ E fun us σ=>D fn (.w j :: us) σ E K):=fun S KE K h Q E hQ hE=>
 mcall_wp hb hl hs hn (h1 S h (fun v cv S1 l1 r1 h=>Vw_el h r1 fun j r1 h=>wd_el h fun rr a hj h=>
  getW_wp ok hw r1 hj (callF_wp (a2 (a2 (okW_wm ok hw))) hs (h2 S1 h (fun us cvs S2 l2 r2 h=>⟨S2.kin,hF fn S2 rfl (.cons (l2.rep r1) r2) h (hQ.up (l1.trans l2)) (hE.up (l1.trans l2))⟩) (hE.up l1)))) hE)
end
end Mine
section
set_option genInjectivity false
set_option genSizeOfSpec false
namespace Mine
open PySem PySem.W PySem.Calls PyProof.Rows
structure EH where
 k0 : Const→Nat→Pos→Bool
 k1 : Str→Pos→Bool
 k2 : List PySem.Expr→Nat→Pos→Bool
 k3 : List PySem.Expr→Pos→Bool
 k4 : UnaryOp→PySem.Expr→Pos→Bool
 k5 : PySem.Expr→Operator→PySem.Expr→Pos→Bool
 k6 : BoolOp→List PySem.Expr→Pos→Bool
 k7 : PySem.Expr→PySem.Expr→PySem.Expr→Pos→Bool
 k8 : PySem.Expr→List CmpOp→List PySem.Expr→Pos→Bool
 k9 : PySem.Expr→PySem.Expr→Pos→Bool
 k10 : Option PySem.Expr→Option PySem.Expr→Option PySem.Expr→Pos→Bool
 k11 : PySem.Expr→List PySem.Expr→List Keyword→Pos→Bool
 k12 : PySem.Expr→Str→Pos→Bool
 k13 : PySem.Expr→List Comprehension→Scope→Pos→Bool
 k14 : List (Option PySem.Expr)→List PySem.Expr→Pos→Bool
noncomputable def eRun (h : EH) : PySem.Expr→Bool
 | .Constant a b c=>h.k0 a b c
 | .Name a b=>h.k1 a b
 | .Tuple a b c=>h.k2 a b c
 | .List a b=>h.k3 a b
 | .UnaryOp a b c=>h.k4 a b c
 | .BinOp a b c d=>h.k5 a b c d
 | .BoolOp a b c=>h.k6 a b c
 | .IfExp a b c d=>h.k7 a b c d
 | .Compare a b c d=>h.k8 a b c d
 | .Subscript a b c=>h.k9 a b c
 | .Slice a b c d=>h.k10 a b c d
 | .Call a b c d=>h.k11 a b c d
 | .Attribute a b c=>h.k12 a b c
 | .ListComp a b c d=>h.k13 a b c d
 | .Dict a b c=>h.k14 a b c
 | _=>false
noncomputable def eZ : EH:=⟨fun _ _ _=>false,fun _ _=>false,fun _ _ _=>false,fun _ _=>false,fun _ _ _=>false,fun _ _ _ _=>false,fun _ _ _=>false,fun _ _ _ _=>false,fun _ _ _ _=>false,fun _ _ _=>false,fun _ _ _ _=>false,fun _ _ _ _=>false,fun _ _ _=>false,fun _ _ _ _=>false,fun _ _ _=>false⟩
structure EP (h : EH) (P : PySem.Expr→Prop) : Prop where
 k0 : ∀ a b c,h.k0 a b c=true→P (.Constant a b c)
 k1 : ∀ a b,h.k1 a b=true→P (.Name a b)
 k2 : ∀ a b c,h.k2 a b c=true→P (.Tuple a b c)
 k3 : ∀ a b,h.k3 a b=true→P (.List a b)
 k4 : ∀ a b c,h.k4 a b c=true→P (.UnaryOp a b c)
 k5 : ∀ a b c d,h.k5 a b c d=true→P (.BinOp a b c d)
 k6 : ∀ a b c,h.k6 a b c=true→P (.BoolOp a b c)
 k7 : ∀ a b c d,h.k7 a b c d=true→P (.IfExp a b c d)
 k8 : ∀ a b c d,h.k8 a b c d=true→P (.Compare a b c d)
 k9 : ∀ a b c,h.k9 a b c=true→P (.Subscript a b c)
 k10 : ∀ a b c d,h.k10 a b c d=true→P (.Slice a b c d)
 k11 : ∀ a b c d,h.k11 a b c d=true→P (.Call a b c d)
 k12 : ∀ a b c,h.k12 a b c=true→P (.Attribute a b c)
 k13 : ∀ a b c d,h.k13 a b c d=true→P (.ListComp a b c d)
 k14 : ∀ a b c,h.k14 a b c=true→P (.Dict a b c)
theorem eRun_el {h : EH} {P : PySem.Expr→Prop} {e : PySem.Expr} (q : eRun h e=true) (k : EP h P) : P e:=by
 cases e with
 | Constant=>exact k.k0 _ _ _ q
 | Name=>exact k.k1 _ _ q
 | Tuple=>exact k.k2 _ _ _ q
 | List=>exact k.k3 _ _ q
 | UnaryOp=>exact k.k4 _ _ _ q
 | BinOp=>exact k.k5 _ _ _ _ q
 | BoolOp=>exact k.k6 _ _ _ q
 | IfExp=>exact k.k7 _ _ _ _ q
 | Compare=>exact k.k8 _ _ _ _ q
 | Subscript=>exact k.k9 _ _ _ q
 | Slice=>exact k.k10 _ _ _ _ q
 | Call=>exact k.k11 _ _ _ _ q
 | Attribute=>exact k.k12 _ _ _ q
 | ListComp=>exact k.k13 _ _ _ _ q
 | Dict=>exact k.k14 _ _ _ q
 | _=>exact absurd q Bool.false_ne_true
theorem eZP (P : PySem.Expr→Prop) : EP eZ P:=⟨fun _ _ _ q=>absurd q Bool.false_ne_true,fun _ _ q=>absurd q Bool.false_ne_true,fun _ _ _ q=>absurd q Bool.false_ne_true,fun _ _ q=>absurd q Bool.false_ne_true,fun _ _ _ q=>absurd q Bool.false_ne_true,fun _ _ _ _ q=>absurd q Bool.false_ne_true,fun _ _ _ q=>absurd q Bool.false_ne_true,fun _ _ _ _ q=>absurd q Bool.false_ne_true,fun _ _ _ _ q=>absurd q Bool.false_ne_true,fun _ _ _ q=>absurd q Bool.false_ne_true,fun _ _ _ _ q=>absurd q Bool.false_ne_true,fun _ _ _ _ q=>absurd q Bool.false_ne_true,fun _ _ _ q=>absurd q Bool.false_ne_true,fun _ _ _ _ q=>absurd q Bool.false_ne_true,fun _ _ _ q=>absurd q Bool.false_ne_true⟩
noncomputable def eConst (f : Const→Bool) : PySem.Expr→Bool:=eRun { eZ with k0:=fun c _ _=>f c }
@[elab_as_elim] theorem eConst_el {f : Const→Bool} {P : PySem.Expr→Prop} {e : PySem.Expr} (h : eConst f e=true) (k : ∀ c k p,f c=true→P (.Constant c k p)) : P e:=eRun_el h { eZP P with k0:=k }
noncomputable def eName (f : Str→Bool) : PySem.Expr→Bool:=eRun { eZ with k1:=fun x _=>f x }
@[elab_as_elim] theorem eName_el {f : Str→Bool} {P : PySem.Expr→Prop} {e : PySem.Expr} (h : eName f e=true) (k : ∀ x p,f x=true→P (.Name x p)) : P e:=eRun_el h { eZP P with k1:=k }
noncomputable def eTup (f : List PySem.Expr→Bool) : PySem.Expr→Bool:=eRun { eZ with k2:=fun es _ _=>f es }
@[elab_as_elim] theorem eTup_el {f : List PySem.Expr→Bool} {P : PySem.Expr→Prop} {e : PySem.Expr} (h : eTup f e=true) (k : ∀ es k p,f es=true→P (.Tuple es k p)) : P e:=eRun_el h { eZP P with k2:=k }
noncomputable def eList (f : List PySem.Expr→Bool) : PySem.Expr→Bool:=eRun { eZ with k3:=fun es _=>f es }
@[elab_as_elim] theorem eList_el {f : List PySem.Expr→Bool} {P : PySem.Expr→Prop} {e : PySem.Expr} (h : eList f e=true) (k : ∀ es p,f es=true→P (.List es p)) : P e:=eRun_el h { eZP P with k3:=k }
noncomputable def eUn (f : UnaryOp→PySem.Expr→Bool) : PySem.Expr→Bool:=eRun { eZ with k4:=fun o a _=>f o a }
@[elab_as_elim] theorem eUn_el {f : UnaryOp→PySem.Expr→Bool} {P : PySem.Expr→Prop} {e : PySem.Expr} (h : eUn f e=true) (k : ∀ o a p,f o a=true→P (.UnaryOp o a p)) : P e:=eRun_el h { eZP P with k4:=k }
noncomputable def eBin (f : PySem.Expr→Operator→PySem.Expr→Bool) : PySem.Expr→Bool:=eRun { eZ with k5:=fun l o r _=>f l o r }
@[elab_as_elim] theorem eBin_el {f : PySem.Expr→Operator→PySem.Expr→Bool} {P : PySem.Expr→Prop} {e : PySem.Expr} (h : eBin f e=true) (k : ∀ l o r p,f l o r=true→P (.BinOp l o r p)) : P e:=eRun_el h { eZP P with k5:=k }
noncomputable def eBo (f : BoolOp→List PySem.Expr→Bool) : PySem.Expr→Bool:=eRun { eZ with k6:=fun o es _=>f o es }
@[elab_as_elim] theorem eBo_el {f : BoolOp→List PySem.Expr→Bool} {P : PySem.Expr→Prop} {e : PySem.Expr} (h : eBo f e=true) (k : ∀ o es p,f o es=true→P (.BoolOp o es p)) : P e:=eRun_el h { eZP P with k6:=k }
noncomputable def eIf (f : PySem.Expr→PySem.Expr→PySem.Expr→Bool) : PySem.Expr→Bool:=eRun { eZ with k7:=fun a b c _=>f a b c }
@[elab_as_elim] theorem eIf_el {f : PySem.Expr→PySem.Expr→PySem.Expr→Bool} {P : PySem.Expr→Prop} {e : PySem.Expr} (h : eIf f e=true) (k : ∀ a b c p,f a b c=true→P (.IfExp a b c p)) : P e:=eRun_el h { eZP P with k7:=k }
noncomputable def eCmp (f : PySem.Expr→List CmpOp→List PySem.Expr→Bool) : PySem.Expr→Bool:=eRun { eZ with k8:=fun l o r _=>f l o r }
@[elab_as_elim] theorem eCmp_el {f : PySem.Expr→List CmpOp→List PySem.Expr→Bool} {P : PySem.Expr→Prop} {e : PySem.Expr} (h : eCmp f e=true) (k : ∀ l o r p,f l o r=true→P (.Compare l o r p)) : P e:=eRun_el h { eZP P with k8:=k }
noncomputable def eSub (f : PySem.Expr→PySem.Expr→Bool) : PySem.Expr→Bool:=eRun { eZ with k9:=fun l i _=>f l i }
@[elab_as_elim] theorem eSub_el {f : PySem.Expr→PySem.Expr→Bool} {P : PySem.Expr→Prop} {e : PySem.Expr} (h : eSub f e=true) (k : ∀ l i p,f l i=true→P (.Subscript l i p)) : P e:=eRun_el h { eZP P with k9:=k }
noncomputable def eSli (f : Option PySem.Expr→Option PySem.Expr→Option PySem.Expr→Bool) : PySem.Expr→Bool:=eRun { eZ with k10:=fun a b c _=>f a b c }
@[elab_as_elim] theorem eSli_el {f : Option PySem.Expr→Option PySem.Expr→Option PySem.Expr→Bool} {P : PySem.Expr→Prop} {e : PySem.Expr} (h : eSli f e=true) (k : ∀ a b c p,f a b c=true→P (.Slice a b c p)) : P e:=eRun_el h { eZP P with k10:=k }
noncomputable def eCall (f : PySem.Expr→List PySem.Expr→List Keyword→Pos→Bool) : PySem.Expr→Bool:=eRun { eZ with k11:=fun g es kw p=>f g es kw p }
@[elab_as_elim] theorem eCall_el {f : PySem.Expr→List PySem.Expr→List Keyword→Pos→Bool} {P : PySem.Expr→Prop} {e : PySem.Expr} (h : eCall f e=true) (k : ∀ g es kw p,f g es kw p=true→P (.Call g es kw p)) : P e:=eRun_el h { eZP P with k11:=k }
noncomputable def eAttr (f : PySem.Expr→Str→Pos→Bool) : PySem.Expr→Bool:=eRun { eZ with k12:=fun o x p=>f o x p }
@[elab_as_elim] theorem eAttr_el {f : PySem.Expr→Str→Pos→Bool} {P : PySem.Expr→Prop} {e : PySem.Expr} (h : eAttr f e=true) (k : ∀ o x p,f o x p=true→P (.Attribute o x p)) : P e:=eRun_el h { eZP P with k12:=k }
noncomputable def eLC (f : PySem.Expr→List Comprehension→Scope→Pos→Bool) : PySem.Expr→Bool:=eRun { eZ with k13:=fun a g s p=>f a g s p }
@[elab_as_elim] theorem eLC_el {f : PySem.Expr→List Comprehension→Scope→Pos→Bool} {P : PySem.Expr→Prop} {e : PySem.Expr} (h : eLC f e=true) (k : ∀ a g s p,f a g s p=true→P (.ListComp a g s p)) : P e:=eRun_el h { eZP P with k13:=k }
noncomputable def eDct (f : List (Option PySem.Expr)→List PySem.Expr→Bool) : PySem.Expr→Bool:=eRun { eZ with k14:=fun a b _=>f a b }
@[elab_as_elim] theorem eDct_el {f : List (Option PySem.Expr)→List PySem.Expr→Bool} {P : PySem.Expr→Prop} {e : PySem.Expr} (h : eDct f e=true) (k : ∀ a b p,f a b=true→P (.Dict a b p)) : P e:=eRun_el h { eZP P with k14:=k }
noncomputable def eName2 (f : Str→Pos→Bool) : PySem.Expr→Bool:=eRun { eZ with k1:=fun x p=>f x p }
@[elab_as_elim] theorem eName2_el {f : Str→Pos→Bool} {P : PySem.Expr→Prop} {e : PySem.Expr} (h : eName2 f e=true) (k : ∀ x p,f x p=true→P (.Name x p)) : P e:=eRun_el h { eZP P with k1:=k }
noncomputable def l1 {α : Type} (f : α→Bool) : List α→Bool
 | [a]=>f a
 | _=>false
@[elab_as_elim] theorem l1_el {α : Type} {f : α→Bool} {P : List α→Prop} {l : List α} (h : l1 f l=true) (k : ∀ a,f a=true→P [a]) : P l:=by
 induction l with
 | nil=>exact absurd h Bool.false_ne_true
 | cons a r=>induction r with
  | nil=>exact k a h
  | cons b r=>exact absurd h Bool.false_ne_true
noncomputable def o1 {α : Type} (f : α→Bool) : Option α→Bool
 | some a=>f a
 | _=>false
@[elab_as_elim] theorem o1_el {α : Type} {f : α→Bool} {P : Option α→Prop} {l : Option α} (h : o1 f l=true) (k : ∀ a,f a=true→P (some a)) : P l:=by
 induction l with
 | none=>exact absurd h Bool.false_ne_true
 | some a=>exact k a h
noncomputable def oN {α : Type} : Option α→Bool
 | none=>true
 | _=>false
@[elab_as_elim] theorem oN_el {α : Type} {P : Option α→Prop} {l : Option α} (h : oN l=true) (k : P none) : P l:=by
 induction l with
 | none=>exact k
 | some a=>exact absurd h Bool.false_ne_true
@[elab_as_elim] theorem nil_el {α : Type} {P : List α→Prop} {l : List α} (h : l.isEmpty=true) (k : P []) : P l:=by
 induction l with
 | nil=>exact k
 | cons a r=>exact absurd h Bool.false_ne_true
@[elab_as_elim] theorem ne_el {α : Type} {P : List α→Prop} {l : List α} (h : (!l.isEmpty)=true) (k : ∀ a r,P (a :: r)) : P l:=by
 induction l with
 | nil=>exact absurd h Bool.false_ne_true
 | cons a r=>exact k a r
noncomputable def cI (j : Int) : Const→Bool
 | .int i=>i == j
 | _=>false
@[elab_as_elim] theorem cI_el {j : Int} {P : Const→Prop} {c : Const} (h : cI j c=true) (k : P (.int j)) : P c:=by
 induction c <;> first | exact (beq_iff_eq.mp h : _=j) ▸ k | exact absurd h Bool.false_ne_true
noncomputable def hdL {α : Type} (f : α→List α→Bool) : List α→Bool
 | a :: r=>f a r
 | _=>false
noncomputable def l2 {α : Type} (f : α→α→Bool) (l : List α) : Bool:=hdL (fun a r=>l1 (f a) r) l
@[elab_as_elim] theorem hdL_el {α : Type} {f : α→List α→Bool} {P : List α→Prop} {l : List α} (h : hdL f l=true) (k : ∀ a r,f a r=true→P (a :: r)) : P l:=by
 induction l with
 | nil=>exact absurd h Bool.false_ne_true
 | cons a r=>exact k a r h
@[elab_as_elim] theorem str_el {x y : Str} {P : Str→Prop} (h : (x == y)=true) (k : P y) : P x:=by
 rw [beq_iff_eq.mp h]; exact k
@[elab_as_elim] theorem dec_el {α : Type} {x y : α} [Decidable (x=y)] {P : α→Prop} (h : decide (x=y)=true) (k : P y) : P x:=by
 rw [of_decide_eq_true h]; exact k
section
variable {a b c d e f g : Bool} {P : Prop}
theorem an2 (h : (a && b)=true) (k : a=true→b=true→P) : P:=k (Bool.and_eq_true a b ▸ h).1 (Bool.and_eq_true a b ▸ h).2
theorem an3 (h : (a && b && c)=true) (k : a=true→b=true→c=true→P) : P:=an2 h fun x z=>an2 x fun x y=>k x y z
theorem an4 (h : (a && b && c && d)=true) (k : a=true→b=true→c=true→d=true→P) : P:=an2 h fun x z=>an3 x fun x y u=>k x y u z
theorem an5 (h : (a && b && c && d && e)=true) (k : a=true→b=true→c=true→d=true→e=true→P) : P:=an2 h fun x z=>an4 x fun x y u v=>k x y u v z
theorem an6 (h : (a && b && c && d && e && f)=true) (k : a=true→b=true→c=true→d=true→e=true→f=true→P) : P:=an2 h fun x z=>an5 x fun x y u v w=>k x y u v w z
theorem an7 (h : (a && b && c && d && e && f && g)=true) (k : a=true→b=true→c=true→d=true→e=true→f=true→g=true→P) : P:=an2 h fun x z=>an6 x fun x y u v w r=>k x y u v w r z
theorem notb (h : (!a)=true) : a=false:=by cases a with
 | false=>rfl
 | true=>exact absurd h Bool.false_ne_true
end
structure SH where
 k0 : PySem.Expr→Pos→Bool
 k1 : List PySem.Expr→PySem.Expr→Pos→Bool
 k2 : PySem.Expr→Operator→PySem.Expr→Pos→Bool
 k3 : PySem.Expr→List Stmt→List Stmt→Pos→Bool
 k4 : PySem.Expr→List Stmt→List Stmt→Pos→Bool
 k5 : PySem.Expr→PySem.Expr→List Stmt→List Stmt→Pos→Bool
 k6 : Option PySem.Expr→Pos→Bool
 k7 : Option PySem.Expr→Option PySem.Expr→Pos→Bool
 k8 : List Stmt→List ExceptHandler→List Stmt→List Stmt→Pos→Bool
 k9 : Pos→Bool
noncomputable def sRun (h : SH) : Stmt→Bool
 | .Expr a b=>h.k0 a b
 | .Assign a b c=>h.k1 a b c
 | .AugAssign a b c d=>h.k2 a b c d
 | .If a b c d=>h.k3 a b c d
 | .While a b c d=>h.k4 a b c d
 | .For a b c d e=>h.k5 a b c d e
 | .Return a b=>h.k6 a b
 | .Raise a b c=>h.k7 a b c
 | .Try a b c d e=>h.k8 a b c d e
 | .Break a=>h.k9 a
 | _=>false
noncomputable def sZ : SH:=⟨fun _ _=>false,fun _ _ _=>false,fun _ _ _ _=>false,fun _ _ _ _=>false,fun _ _ _ _=>false,fun _ _ _ _ _=>false,fun _ _=>false,fun _ _ _=>false,fun _ _ _ _ _=>false,fun _=>false⟩
structure SP (h : SH) (P : Stmt→Prop) : Prop where
 k0 : ∀ a b,h.k0 a b=true→P (.Expr a b)
 k1 : ∀ a b c,h.k1 a b c=true→P (.Assign a b c)
 k2 : ∀ a b c d,h.k2 a b c d=true→P (.AugAssign a b c d)
 k3 : ∀ a b c d,h.k3 a b c d=true→P (.If a b c d)
 k4 : ∀ a b c d,h.k4 a b c d=true→P (.While a b c d)
 k5 : ∀ a b c d e,h.k5 a b c d e=true→P (.For a b c d e)
 k6 : ∀ a b,h.k6 a b=true→P (.Return a b)
 k7 : ∀ a b c,h.k7 a b c=true→P (.Raise a b c)
 k8 : ∀ a b c d e,h.k8 a b c d e=true→P (.Try a b c d e)
 k9 : ∀ a,h.k9 a=true→P (.Break a)
theorem sRun_el {h : SH} {P : Stmt→Prop} {e : Stmt} (q : sRun h e=true) (k : SP h P) : P e:=by
 cases e with
 | Expr=>exact k.k0 _ _ q
 | Assign=>exact k.k1 _ _ _ q
 | AugAssign=>exact k.k2 _ _ _ _ q
 | If=>exact k.k3 _ _ _ _ q
 | While=>exact k.k4 _ _ _ _ q
 | For=>exact k.k5 _ _ _ _ _ q
 | Return=>exact k.k6 _ _ q
 | Raise=>exact k.k7 _ _ _ q
 | Try=>exact k.k8 _ _ _ _ _ q
 | Break=>exact k.k9 _ q
 | _=>exact absurd q Bool.false_ne_true
theorem sZP (P : Stmt→Prop) : SP sZ P:=⟨fun _ _ q=>absurd q Bool.false_ne_true,fun _ _ _ q=>absurd q Bool.false_ne_true,fun _ _ _ _ q=>absurd q Bool.false_ne_true,fun _ _ _ _ q=>absurd q Bool.false_ne_true,fun _ _ _ _ q=>absurd q Bool.false_ne_true,fun _ _ _ _ _ q=>absurd q Bool.false_ne_true,fun _ _ q=>absurd q Bool.false_ne_true,fun _ _ _ q=>absurd q Bool.false_ne_true,fun _ _ _ _ _ q=>absurd q Bool.false_ne_true,fun _ q=>absurd q Bool.false_ne_true⟩
noncomputable def sExpr (f : PySem.Expr→Bool) : Stmt→Bool:=sRun { sZ with k0:=fun e _=>f e }
@[elab_as_elim] theorem sExpr_el {f : PySem.Expr→Bool} {P : Stmt→Prop} {e : Stmt} (h : sExpr f e=true) (k : ∀ e p,f e=true→P (.Expr e p)) : P e:=sRun_el h { sZP P with k0:=k }
noncomputable def sAsg (f : List PySem.Expr→PySem.Expr→Bool) : Stmt→Bool:=sRun { sZ with k1:=fun ts e _=>f ts e }
@[elab_as_elim] theorem sAsg_el {f : List PySem.Expr→PySem.Expr→Bool} {P : Stmt→Prop} {e : Stmt} (h : sAsg f e=true) (k : ∀ ts e p,f ts e=true→P (.Assign ts e p)) : P e:=sRun_el h { sZP P with k1:=k }
noncomputable def sAug (f : PySem.Expr→Operator→PySem.Expr→Bool) : Stmt→Bool:=sRun { sZ with k2:=fun x o e _=>f x o e }
@[elab_as_elim] theorem sAug_el {f : PySem.Expr→Operator→PySem.Expr→Bool} {P : Stmt→Prop} {e : Stmt} (h : sAug f e=true) (k : ∀ x o e p,f x o e=true→P (.AugAssign x o e p)) : P e:=sRun_el h { sZP P with k2:=k }
noncomputable def sIf (f : PySem.Expr→List Stmt→List Stmt→Bool) : Stmt→Bool:=sRun { sZ with k3:=fun e a b _=>f e a b }
@[elab_as_elim] theorem sIf_el {f : PySem.Expr→List Stmt→List Stmt→Bool} {P : Stmt→Prop} {e : Stmt} (h : sIf f e=true) (k : ∀ e a b p,f e a b=true→P (.If e a b p)) : P e:=sRun_el h { sZP P with k3:=k }
noncomputable def sWhl (f : PySem.Expr→List Stmt→List Stmt→Bool) : Stmt→Bool:=sRun { sZ with k4:=fun e a b _=>f e a b }
@[elab_as_elim] theorem sWhl_el {f : PySem.Expr→List Stmt→List Stmt→Bool} {P : Stmt→Prop} {e : Stmt} (h : sWhl f e=true) (k : ∀ e a b p,f e a b=true→P (.While e a b p)) : P e:=sRun_el h { sZP P with k4:=k }
noncomputable def sFor (f : PySem.Expr→PySem.Expr→List Stmt→List Stmt→Bool) : Stmt→Bool:=sRun { sZ with k5:=fun x e a b _=>f x e a b }
@[elab_as_elim] theorem sFor_el {f : PySem.Expr→PySem.Expr→List Stmt→List Stmt→Bool} {P : Stmt→Prop} {e : Stmt} (h : sFor f e=true) (k : ∀ x e a b p,f x e a b=true→P (.For x e a b p)) : P e:=sRun_el h { sZP P with k5:=k }
noncomputable def sRet (f : Option PySem.Expr→Bool) : Stmt→Bool:=sRun { sZ with k6:=fun e _=>f e }
@[elab_as_elim] theorem sRet_el {f : Option PySem.Expr→Bool} {P : Stmt→Prop} {e : Stmt} (h : sRet f e=true) (k : ∀ e p,f e=true→P (.Return e p)) : P e:=sRun_el h { sZP P with k6:=k }
noncomputable def sRse (f : Option PySem.Expr→Option PySem.Expr→Bool) : Stmt→Bool:=sRun { sZ with k7:=fun a b _=>f a b }
@[elab_as_elim] theorem sRse_el {f : Option PySem.Expr→Option PySem.Expr→Bool} {P : Stmt→Prop} {e : Stmt} (h : sRse f e=true) (k : ∀ a b p,f a b=true→P (.Raise a b p)) : P e:=sRun_el h { sZP P with k7:=k }
noncomputable def sTry (f : List Stmt→List ExceptHandler→List Stmt→List Stmt→Bool) : Stmt→Bool:=sRun { sZ with k8:=fun a h b c _=>f a h b c }
@[elab_as_elim] theorem sTry_el {f : List Stmt→List ExceptHandler→List Stmt→List Stmt→Bool} {P : Stmt→Prop} {e : Stmt} (h : sTry f e=true) (k : ∀ a h b c p,f a h b c=true→P (.Try a h b c p)) : P e:=sRun_el h { sZP P with k8:=k }
noncomputable def sBrk : Stmt→Bool:=sRun { sZ with k9:=fun _=>true }
@[elab_as_elim] theorem sBrk_el {P : Stmt→Prop} {e : Stmt} (h : sBrk e=true) (k : ∀ p,P (.Break p)) : P e:=sRun_el h { sZP P with k9:=fun p _=>k p }
noncomputable def cNone : Const→Bool
 | .none=>true
 | _=>false
@[elab_as_elim] theorem cNone_el {P : Const→Prop} {e : Const} (h : cNone e=true) (k : P .none) : P e:=by
 induction e <;> first | exact k | exact absurd h Bool.false_ne_true
noncomputable def hdlr (f : Option PySem.Expr→Option Str→List Stmt→Bool) : ExceptHandler→Bool
 | .ExceptHandler a b c _=>f a b c
@[elab_as_elim] theorem hdlr_el {f : Option PySem.Expr→Option Str→List Stmt→Bool} {P : ExceptHandler→Prop} {e : ExceptHandler} (h : hdlr f e=true) (k : ∀ a b c p,f a b c=true→P (.ExceptHandler a b c p)) : P e:=by
 cases e with
 | _=>exact k _ _ _ _ h
noncomputable def vTy (f : String→Bool) : Value→Bool
 | .type a=>f a
 | _=>false
@[elab_as_elim] theorem vTy_el {f : String→Bool} {P : Value→Prop} {e : Value} (h : vTy f e=true) (k : ∀ a,f a=true→P (.type a)) : P e:=by
 induction e <;> first | exact k _ h | exact absurd h Bool.false_ne_true
noncomputable def dFn (f : FuncData→Bool) : Data→Bool
 | .func fd=>f fd
 | _=>false
@[elab_as_elim] theorem dFn_el {f : FuncData→Bool} {P : Data→Prop} {e : Data} (h : dFn f e=true) (k : ∀ a,f a=true→P (.func a)) : P e:=by
 induction e <;> first | exact k _ h | exact absurd h Bool.false_ne_true
noncomputable def dCls (f : ClassData→Bool) : Data→Bool
 | .cls fd=>f fd
 | _=>false
@[elab_as_elim] theorem dCls_el {f : ClassData→Bool} {P : Data→Prop} {e : Data} (h : dCls f e=true) (k : ∀ a,f a=true→P (.cls a)) : P e:=by
 induction e <;> first | exact k _ h | exact absurd h Bool.false_ne_true
noncomputable def dSeq (f : Array Value→Bool) : Data→Bool
 | .seq a _=>f a
 | _=>false
@[elab_as_elim] theorem dSeq_el {f : Array Value→Bool} {P : Data→Prop} {e : Data} (h : dSeq f e=true) (k : ∀ a n,f a=true→P (.seq a n)) : P e:=by
 induction e <;> first | exact k _ _ h | exact absurd h Bool.false_ne_true
noncomputable def bSt (f : List Stmt→Bool) : FuncBody→Bool
 | .stmts a=>f a
 | _=>false
@[elab_as_elim] theorem bSt_el {f : List Stmt→Bool} {P : FuncBody→Prop} {e : FuncBody} (h : bSt f e=true) (k : ∀ a,f a=true→P (.stmts a)) : P e:=by
 induction e <;> first | exact k _ h | exact absurd h Bool.false_ne_true
theorem oFn_inv {f : FuncData→Bool} {o : Option Obj} (h : o1 (fun o=>dFn f o.data) o=true) : ∃ c d fd sl,o=some ⟨c,d,.func fd,sl⟩∧f fd=true:=by
 refine o1_el h fun o h=>?_
 obtain ⟨c,d,dt,sl⟩:=o
 exact dFn_el (e:=dt) h fun fd h=>⟨c,d,fd,sl,rfl,h⟩
theorem oCls_inv {f : Value→ClassData→Array (Option Value)→Bool} {o : Option Obj} (h : o1 (fun o=>dCls (fun cd=>f o.cls cd o.slots) o.data) o=true) : ∃ c d cd sl,o=some ⟨c,d,.cls cd,sl⟩∧f c cd sl=true:=by
 refine o1_el h fun o h=>?_
 obtain ⟨c,d,dt,sl⟩:=o
 exact dCls_el (e:=dt) h fun fd h=>⟨c,d,fd,sl,rfl,h⟩
theorem oSeq_inv {f : Array Value→Bool} {o : Option Obj} (h : o1 (fun o=>dSeq f o.data) o=true) : ∃ c d a n sl,o=some ⟨c,d,.seq a n,sl⟩∧f a=true:=by
 refine o1_el h fun o h=>?_
 obtain ⟨c,d,dt,sl⟩:=o
 exact dSeq_el (e:=dt) h fun fd n h=>⟨c,d,fd,n,sl,rfl,h⟩
theorem bSt_inv {f : List Stmt→Bool} {b : FuncBody} (h : bSt f b=true) : ∃ l,b=.stmts l∧f l=true:=bSt_el h fun a h=>⟨a,rfl,h⟩
theorem vRef_inv {f : Addr→Bool} {b : Value} (h : vRef f b=true) : ∃ l,b=.ref l∧f l=true:=vRef_el (T:=fun b=>∃ l,b=.ref l∧f l=true) h fun a h=>⟨a,rfl,h⟩
noncomputable def isNm (x : Str) : PySem.Expr→Bool:=eName (· == x)
@[elab_as_elim] theorem isNm_el {x : Str} {P : PySem.Expr→Prop} {e : PySem.Expr} (h : isNm x e=true) (k : ∀ p,P (.Name x p)) : P e:=
 eName_el h fun y p h=>str_el (P:=fun y=>P (.Name y p)) h (k p)
noncomputable def setSt (o nm : Str) (f : PySem.Expr→Bool) : Stmt→Bool:=sAsg fun ts e=>l1 (eAttr fun x n _=>n == nm && isNm o x) ts && f e
@[elab_as_elim] theorem setSt_el {o nm : Str} {f : PySem.Expr→Bool} {P : Stmt→Prop} {s : Stmt} (h : setSt o nm f s=true) (k : ∀ p1 p2 e p,f e=true→P (.Assign [.Attribute (.Name o p1) nm p2] e p)) : P s:=by
 refine sAsg_el h fun ts e p h=>?_
 refine an2 h fun h0 h1=>?_
 refine l1_el h0 fun x h=>?_
 refine eAttr_el h fun x n p2 h=>?_
 refine an2 h fun a0 a1=>?_
 refine str_el a0 ?_
 refine isNm_el a1 fun p1=>?_
 exact k p1 p2 e p h1
end Mine
end
namespace Mine
open PySem PySem.W PySem.Calls PyProof.Rows
noncomputable def Inj (vs : Vars) : Prop:=∀ x y i,vs.lookup x=some i→vs.lookup y=some i→x=y
structure Nm (F : Fx) (x : Str) (i : Nat) : Prop where
 k : F.env.kindOf x=some .local
 s : F.vs.lookup x=some i
noncomputable def NoSw (F : Fx) (e : PySem.Expr) : Prop:=∀ t l,swapsWith e t l F.env=pure false
section
variable {W : Wo} {F : Fx} {C : Cx F} {Γ Γ' : Loc} {S : Sx W C Γ} {S' : Sx W C Γ'} {Q : Flow→Shared→Prop} {E : Value→Shared→Prop} {N : Kn} {Jp : J} {x : Str} {i j : Nat} {cv : Value} {v : V} {p np apos pos pos2 : Pos} {e o ei : PySem.Expr} {f g k : Loc→Store→Ke→Kv→Prop} {a : Addr} {cvs cvs' : List Value} {xs xs' : List D}
theorem LeX.refl (S : Sx W C Γ) : LeX S S:=⟨.refl _,rfl⟩
theorem OutS.up (h : OutS S Q N Jp) (l : LeX S S') : OutS S' Q N Jp:=⟨fun S2 l2=>h.n S2 (l.trans l2),fun S2 l2=>h.b S2 (l.trans l2),fun S2 k cv v l2=>h.z S2 k cv v (l.trans l2)⟩
theorem OutX.up {KE : Ke} (h : OutX S E KE) (l : LeX S S') : OutX S' E KE:=fun S2 x l2=>h S2 x (l.trans l2)
theorem OutX.toE {KE : Ke} (h : OutX S E KE) : OutE S E KE:=fun S2 x l2=>h S2 x l2.x
theorem FrRel.set {env : Env} {vs : Vars} {I : Imm} {α : List Addr} {m : Str→Option Value} (h : FrRel W env vs Γ I α m) (hj : Inj vs) (hk : env.kindOf x=some .local) (hx : vs.lookup x=some i) (r : RepV W I α cv v) : FrRel W env vs (setL Γ i v) I α (fun y=>if y=x then some cv else m y):=fun y j u hy hu=>
 if q : y=x then by
  subst q
  rw [hx] at hy
  cases hy
  have e : some v=some u:=(List.getElem?_eq_some_iff.mp hu).elim fun h e=>(List.getElem_set_self h).symm.trans e
  cases e
  exact ⟨cv,.inl ⟨hk,if_pos rfl⟩,r⟩
 else set_el hu (fun e _=>absurd (hj y x _ (e ▸ hy) hx) q) fun hu=>E12 (h y j u hy hu) fun cu hl ru=>⟨cu,hl.imp (fun h=>⟨h.1,(if_neg q).trans h.2⟩) id,ru⟩
theorem same_but {h h' : Heap} (s : Heap.SameBut a h h') : But a h h':=fun b o hb e=>(s.2 b hb).trans e
theorem store_wp {Q : Unit→Shared→Prop} (hj : Inj F.vs) (nm : Nm F x i) (r : S.rep cv v) (h : ∀ S' : Sx W C (setL Γ i v),LeX S S'→S'.σ=S.σ→S'.G.I=S.G.I→S'.G.M=S.G.M→Q () S'.s) : wpAny W.m C.A (storeName F.env x cv) Q E S.s:=by
 refine wpAny_storeName_local nm.k (C.e.loc.symm ▸ S.X.ns) (fun h' hn hs=>?_) (by rw [C.e.kind]; rfl)
 rw [C.e.loc] at hn hs
 exact h ⟨{ S.G with m:=fun y=>if y=x then some cv else S.G.m y },S.σ,{ S.s with heap:=h',toks:=S.s.toks + 1 },S.X.setNs (same_but hs) hn,S.f.set hj nm.k nm.s r⟩ ⟨⟨.refl _,List.prefix_rfl⟩,rfl⟩ rfl rfl rfl
theorem ss_nil : SndSs W F [] (fun N _ Γ σ=>N Γ σ):=fun fs S N J h Q E hQ hE=>wpAny_execs_nil (hQ.n S (.refl S) h)
theorem ss_cons {s : Stmt} {r : List Stmt} {f g : Kn→J→Loc→Store→Prop} (h1 : SndS W F s f) (h2 : SndSs W F r g) : SndSs W F (s :: r) (fun N j Γ σ=>f (g N j) j Γ σ):=fun fs S N J h Q E hQ hE=>
 wpAny_execs_cons (h1 fs S h ⟨fun S1 l1 h=>h2 fs S1 h (hQ.up l1) (hE.up l1),hQ.b,hQ.z⟩ hE)
theorem s_asg (hj : Inj F.vs) (nm : Nm F x i) (hs : NoSw F e) (h1 : SndE W F e f) : SndS W F (.Assign [.Name x p] e pos) (fun N j Γ σ=>f Γ σ j.E fun v σ=>N (setL Γ i v) σ):=fun fs S N J h Q E hQ hE=>
 wpAny_Assign_Name (h1 S h (fun v cv S1 l1 r1 h=>store_wp hj nm r1 fun S2 l2 e2 _ _=>hQ.n S2 (l1.x.trans l2) (e2 ▸ h)) hE.toE) (hs _ _)
theorem s_ret {kp : Bool} (h1 : SndE W F e f) : SndS W F (.Return (some e) pos) (fun N j Γ σ=>f Γ σ j.E fun v σ=>j.Z kp v σ):=fun fs S N J h Q E hQ hE=>
 wpAny_Return_some (h1 S h (fun v cv S1 l1 r1 h=>hQ.z S1 kp cv v l1.x r1 h) hE.toE)
theorem s_brk : SndS W F (.Break pos) (fun N j Γ σ=>j.B Γ σ):=fun fs S N J h Q E hQ hE=>wpAny_Break (hQ.b S (.refl S) h)
theorem Cx.dull (C : Cx F) : interactive F.env=false:=by unfold interactive; rw [C.e.kind]; rfl
theorem s_ex (hs : NoSw F e) (h1 : SndE W F e f) : SndS W F (.Expr e pos) (fun N j Γ σ=>f Γ σ j.E fun _ σ=>N Γ σ):=fun {C Γ} fs S N J h Q E hQ hE=>
 wpAny_Expr_any (h1 S h (fun v cv S1 l1 r1 h=>hQ.n S1 l1.x h) hE.toE) C.dull (hs _ _)
theorem s_if {t : PySem.Expr} {a b : List Stmt} {ft : Loc→Store→Ke→Kb→Prop} {f g : Kn→J→Loc→Store→Prop} (ht : SndT W F t ft) (ha : SndSs W F a f) (hb : SndSs W F b g) : SndS W F (.If t a b pos) (fun N j Γ σ=>ft Γ σ j.E fun c σ=>Br c (f N j Γ σ) (g N j Γ σ)):=fun fs S N J h Q E hQ hE=>
 wpAny_If (ht S h (fun c S1 l1 h=>by
  cases c with
  | true=>exact ha fs S1 h (hQ.up l1.x) (hE.up l1.x)
  | false=>exact hb fs S1 h (hQ.up l1.x) (hE.up l1.x)) hE.toE)
theorem s_aug (hj : Inj F.vs) (nm : Nm F x i) (h1 : SndE W F e f) : SndS W F (.AugAssign (.Name x p) .Add e pos) (fun N j Γ σ=>Lk Γ i fun v=>Vd v fun d=>Di d fun a=>f Γ σ j.E fun v σ=>Vd v fun d=>Di d fun b=>N (setL Γ i (.d (.int (a + b)))) σ):=fun {C Γ} fs S N J h Q E hQ hE=>
 Lk_el h fun v ha h=>E12 (S.f x i v nm.s ha) fun cv hl r=>wpAny_AugAssign_Name (by
  rcases hl with ⟨_,hm⟩ | ⟨hk',_⟩
  ·exact wpAny_loadName_local C.e.kind nm.k (C.e.loc.symm ▸ S.X.ns) hm (int_el h r fun a t h=>h1 S h (fun v cu S1 l1 r1 h=>int_el h r1 fun b u h=>PyProof.Rows.iadd_int (store_wp (S:=S1.to S1.G S1.σ S1.s.heap (S1.s.toks + 1) (.refl _) S1.X) hj nm (RepV.d (.int (a + b) _)) fun S2 l2 e2 _ _=>hQ.n S2 (l1.x.trans ⟨l2.g,l2.s⟩) (e2 ▸ h))) hE.toE)
  ·rw [nm.k] at hk'
   exact hk'.elim (fun h=>by cases h) fun h=>by cases h.1)
theorem onL_el {σ : Store} {K : Nat→Prop} {T : Prop} (h : wOnL Γ i σ K) (k : ∀ j xs,Γ[i]?=some (some (.l j))→σ[j]?=some (.lst xs)→K j→T) : T:=
 Lk_el h fun v hv h=>by
  cases v with
  | l j=>exact ls_el h fun xs hx h=>k j xs hv hx h
  | _=>exact h.elim
theorem mut_at {T : Value→Prop} (r : S.rep cv (.l j)) (e : S.σ[j]?=some (.lst xs)) (k : ∀ a cvs,S.G.M[j]?=some (a,.lst cvs)→S.s.heap.PlainList a cvs.toArray→RepDs S.G.I cvs xs→xs.length≤LIM→T (.ref a)) : T cv:=
 E12 r fun a ea ha=>S.X.el e fun a' c h1 h2 er ca=>E13 er fun cvs ec rs hl=>by
  subst ec; subst ea
  rw [ha] at h2; cases h2
  exact k a cvs h1 ca rs hl
theorem Sx.turn {c c' : Cell} {e' : Ent} {h' : Heap} {tk : Nat} {P : Shared→Prop} (hM : S.G.M[j]?=some (a,c)) (k : But a S.s.heap h') (q : CellAt W h' a c') (r : EntRel S.G.I S.G.α c' e') (hw : wfE j e') (h : ∀ S' : Sx W C Γ,Le S S'→S'.σ=S.σ.set j e'→P S'.s) : P { S.s with heap:=h',toks:=tk }:=
 have le : Gh.le S.G { S.G with M:=S.G.M.set j (a,c') }:=⟨⟨.refl _,by show S.G.α <+: (S.G.M.set j (a,c')).map (·.1); rw [map_set hM]; exact List.prefix_rfl⟩,rfl⟩
 h (S.to _ _ h' tk le (S.X.setEnt hM k q r hw)) (S.to_le _ _) rfl
theorem plain1 {env : Env} (hs : Plain1 env e) : Plains env [e]:=fun _ h=>List.mem_singleton.mp h ▸ hs
theorem getM_list {M : Model} {A : Around} {s : Shared} {l : Addr} {items : Array Value} {name : Str} {id : String} {pl : Sem Bool} {Q : Value × List Value→Shared→Prop} (hl : s.heap.PlainList l items)
  (slot : Slot "list" name id) (hty : typeOf (.builtin id)=pure (.type "method_descriptor")) (h : Q (.builtin id,[.ref l]) s) : wpAny M A (getMethod (.ref l) name pl) Q E s:=
 E11 hl fun n e=>getMethod_builtin ⟨_,e,rfl⟩ PySem.F.plainAttrs_list slot hty (fun a q=>by cases q; exact ⟨_,e,rfl⟩) h
theorem lmeth_wp {name : Str} {id : String} {args : List PySem.Expr} {Q : Value→Shared→Prop} {K : Nat→Prop} (hx : F.vs.lookup x=some i) (hd : (x == ("__debug__" : Str))=false) (hl : (apos.endLine == pos.line)=true) (hs : Plains F.env args) (hn : decide (args.length < 30)=true)
  (slot : Slot "list" name id) (hty : typeOf (.builtin id)=pure (.type "method_descriptor")) (h : wOnL Γ i S.σ K) (k : ∀ j a,S.rep (.ref a) (.l j)→(∃ xs,S.σ[j]?=some (.lst xs))→K j→wpAny W.m C.A (callWith pos (.builtin id) [.ref a] (backTo pos (starEach args F.env)) []) Q E S.s) : wpAny W.m C.A (eval (.Call (.Attribute (.Name x np) name apos) args [] pos) F.env) Q E S.s:=
 mcall_wp (fun _ _=>rfl) hl hs hn (onL_el h fun j xs ha hj h=>E12 (S.f x i _ hx ha) fun cl hlc rl=>hlc.name hd (mut_at (T:=fun cl=>S.rep cl (.l j)→wpAny W.m C.A (getMethod cl name _) _ E S.s) rl hj (fun a cvs hM pl rs hlen rl=>getM_list pl slot hty (k j a rl ⟨xs,hj⟩ h)) rl))
theorem s_app (hx : F.vs.lookup x=some i) (hd : (x == ("__debug__" : Str))=false) (hl : (apos.endLine == pos.line)=true) (hs : Plain1 F.env e) (h1 : SndE W F e f) :
  SndS W F (.Expr (.Call (.Attribute (.Name x np) "append" apos) [e] [] pos) pos2) (fun N j Γ σ=>wOnL Γ i σ fun a=>f Γ σ j.E fun v σ=>Vd v fun x=>Ls σ a fun xs=>Bt (fitD (xs ++ [x])) (N Γ (σ.set a (.lst (xs ++ [x]))))):=fun {C Γ} fs S N J h Q E hQ hE=>
 wpAny_Expr_any (lmeth_wp hx hd hl (plain1 hs) rfl PySem.F.slot_list_append PySem.F.type_list_append h fun j a rl _ h=>callM_wp (plain1 hs) (wpAny_items_cons (h1 S h (fun v cv S1 l1 r1 h=>wpAny_items_nil (Vd_el h r1 fun y rd h=>ls_el h fun xs hj h=>bt_el h fun hf h=>by
  refine mut_at (T:=fun cl=>∀ a,cl=.ref a→wpAny W.m C.A (call (.builtin "list.append") [.ref a,cv]) _ E S1.s) (l1.rep rl) hj (fun a cvs hM pl rs hlen a' e=>?_) a rfl
  cases e
  refine wpAny_list_append_plain pl (fun h' p' sb=>?_) (by rw [List.size_toArray,rs.length,← lim_eq]; exact hlen)
  exact S1.turn (c':=.lst (cvs ++ [cv])) (e':=.lst (xs ++ [y])) hM (same_but sb) (show h'.PlainList _ _ by rw [← List.push_toArray]; exact p') ⟨_,rfl,rs.append (.cons rd .nil),fitDle hf⟩ wf_lst fun S2 l2 e2=>hQ.n S2 (l1.trans l2).x (e2 ▸ h))) hE.toE) (hs _))) C.dull rfl
end
end Mine
namespace Mine
open PySem PySem.W PySem.Calls PyProof.Rows
theorem list_extend_any (l : Addr) (items : Array Value) (n : Nat) (b : Addr) (o2 : Obj) (items2 : Array Value) (n2 : Nat) (hc2 : o2.cls=.type "list") (hd2 : o2.data=.seq items2 n2) (hc0 : ¬(!items.isEmpty && Builtin.List.listTooLong (items.size + items2.size))=true) (hc1 : items.size≤sizeLine) (hs2 : items.size + items2.size≤sizeLine + 1) :
  Meets (Builtin.«list.extend» ⟨[.ref l,.ref b],[]⟩) (fun _ R s=>s.heap.get? l=some { cls:=.type "list",dict:=none,data:=.seq items n,slots:=#[] }∧s.heap.get? b=some o2∧R (.ok (.ret Value.none)) { s with heap:=s.heap.update l (Obj.mapSeq fun x=>x ++ items2),toks:=s.toks }):=
 .of_wp fun prog w A R s h=>by
  obtain ⟨c2,d2,dd2,sl2⟩:=o2
  cases hc2; cases hd2
  obtain ⟨hp,g,d,tk,os⟩:=s; refine E03 h fun hl hb h=>?_; have f1:=AutoSeq1.idx_int; have f2:=AutoSeq1.sub_tuple_tuple; have f3:=AutoSeq1.sub_list_list; have f4:=AutoSeq1.sub_tuple_list; have f5:=AutoSeq1.sub_list_tuple;
  have hz' : (items ++ items2).size≤sizeLine + 1:=by rw [Array.size_append]; exact hs2
  wp_walk using (wpAny_updateSeq hl rfl (hz:=hc1) (_hz':=hz')),wpAny_loadPart' hl,wpAny_loadPart' hb; exact ⟨_,rfl,h⟩
theorem list_pop_any (l : Addr) (items : Array Value) (n : Nat) (x : Value) (hx : items[items.size - 1]?=some x) (hc1 : items.size≤sizeLine) (h0 : items.isEmpty=false) :
  Meets (Builtin.«list.pop» ⟨[.ref l],[]⟩) (fun _ R s=>s.heap.get? l=some { cls:=.type "list",dict:=none,data:=.seq items n,slots:=#[] }∧R (.ok (.ret x)) { s with heap:=s.heap.update l (Obj.mapSeq fun xs=>xs.eraseIdxIfInBounds (items.size - 1)),toks:=s.toks }):=
 .of_wp fun prog w A R s h=>by
  obtain ⟨hp,g,d,tk,os⟩:=s; refine E02 h fun hl h=>?_; have f1:=AutoSeq1.idx_int; have f2:=AutoSeq1.sub_tuple_tuple; have f3:=AutoSeq1.sub_list_list; have f4:=AutoSeq1.sub_tuple_list; have f5:=AutoSeq1.sub_list_tuple;
  have hne : items.size ≠ 0:=fun e=>by
   have : items=#[]:=Array.eq_empty_of_size_eq_zero e
   rw [this] at h0; exact Bool.noConfusion h0
  have e1 : seqIndex? (-1) items.size=some (items.size - 1):=by
   unfold seqIndex?
   simp only [show ((-1 : Int) < 0) from by decide,if_true]
   rw [if_pos (by simp; lia)]
   congr 1; lia
  have hz' : (items.eraseIdxIfInBounds (items.size - 1)).size≤sizeLine + 1:=by
   unfold Array.eraseIdxIfInBounds; split
   ·rw [Array.size_eraseIdx]; lia
   ·exact (tm hc1)
  wp_walk using (wpAny_updateSeq hl rfl (hz:=hc1)),wpAny_loadPart' hl
  simp only [e1,Option.bind_some,hx]
  refine wpAny_bind ?_
  show wpAny _ _ (updateSeq l _) _ _ _
  exact wpAny_updateSeq hl rfl (wpAny_pure ⟨_,rfl,h⟩) hc1 hz'
theorem mapSeq_plain (f : Array Value→Array Value) (items : Array Value) (n : Nat) : ∃ n',Obj.mapSeq f { cls:=.type "list",data:=.seq items n }={ cls:=.type "list",data:=.seq (f items) n' }:=by
 unfold Obj.mapSeq
 exact ⟨_,rfl⟩
theorem plain_update {h : Heap} {l : Addr} {items : Array Value} {n : Nat} (hl : h.get? l=some { cls:=.type "list",data:=.seq items n }) (f : Array Value→Array Value) : (h.update l (Obj.mapSeq f)).PlainList l (f items):=by
 refine E11 (mapSeq_plain f items n) fun n' e=>?_
 exact ⟨n',by rw [Heap.get?_update_self _ hl (by rw [e]; rfl),e]⟩
theorem setItem_plain {prog : Program} {w : World} {A : Around} {E : Value→Shared→Prop} {s : Shared} {l : Addr} {items : Array Value} {k : Int} {t : Tok} {v : Value} {Q : Unit→Shared→Prop} (hl : s.heap.PlainList l items)
  (h0 : 0≤k) (hfit : k < 2 ^ 63) (hn : k < items.size)
  (hQ : ∀ h',h'.PlainList l (items.setIfInBounds k.toNat v)→Heap.SameBut l s.heap h'→Q () { s with heap:=h' }) :
  wpAny (model prog w) A (setItem (.ref l) (.int k t) v) Q E s:=by
 refine E11 hl fun ne ho=>?_
 have hl : s.heap.IsList l items:=⟨_,ho,rfl,ne,rfl⟩
 have hd : ({ cls:=.type "list",data:=.seq items ne } : Obj).data=.seq items ne:=rfl
 unfold setItem
 try with_reducible refine wpAny_holding ?_
 first | refine wpAny_bind (wpAny_pure ?_) | skip
 refine wpAny_bind (wpAny_sequenceKey hl.typeIs (by decide) ?_)
 refine wpAny_bind (wpAny_callSpecial?_slot (name:=Str.ofString "__setitem__") hl.typeIs slot_list_setitem
  (wpAny_call_entry slot_list_setitem hl.typeIs entry_list_setitem ?_ (args_list_setitem _ _ _)))
 show wpAny _ _ (Builtin.List.listSubscript? (.int k t) >>= _) _ _ s
 refine wpAny_bind (wpAny_listSubscript_int (fitsIndex_of h0 hfit) ?_)
 clear hfit
 refine E11 (Int.eq_ofNat_of_zero_le h0) fun j q_0=>?_; subst q_0
 have hj : j < items.size:=by lia
 have hx' : items[j]?=some items[j]:=Array.getElem?_eq_getElem hj
 show wpAny _ _ ((seqItemAt l j >>= fun r=>pure (r.map (j,·))) >>= _) _ _ s
 refine wpAny_bind (wpAny_bind (wpAny_seqItemAt ho hd (wpAny_pure ?_)))
 rw [hx']
 show wpAny _ _ (setSeqItemAt l j v >>= _) _ _ s
 have hfin : (s.heap.update l (Obj.mapSeq (·.setIfInBounds j v))).PlainList l (items.setIfInBounds j v):=plain_update ho _
 refine wpAny_bind (wpAny_setSeqItemAt ho hd ?_)
 first
  | exact wpAny_bind (wpAny_pure (wpAny_pure ⟨.none,rfl,wpAny_pure (hQ _ hfin (Heap.SameBut.update ..))⟩))
  | exact wpAny_pure ⟨.none,rfl,wpAny_pure (hQ _ hfin (Heap.SameBut.update ..))⟩
theorem erase_last (vs : List Value) : vs.toArray.eraseIdxIfInBounds (vs.length - 1)=vs.dropLast.toArray:=by
 have key : ∀ l : List Value,l.eraseIdx (l.length - 1)=l.dropLast:=by
  intro l
  induction l with
  | nil=>rfl
  | cons a r ih=>
   induction r with
   | nil=>rfl
   | cons b r=>
    have e : (a :: b :: r).length - 1=((b :: r).length - 1) + 1:=by trivial
    rw [e,List.eraseIdx_cons_succ,ih]; rfl
 unfold Array.eraseIdxIfInBounds
 split
 ·apply Array.ext'
  simp [key]
 ·rename_i h
  have : vs=[]:=by
   induction vs with
   | nil=>rfl
   | cons a b=>simp at h
  subst this; rfl
section
variable {W : Wo} {F : Fx} {C : Cx F} {Γ Γ' : Loc} {S : Sx W C Γ} {Q : Flow→Shared→Prop} {E : Value→Shared→Prop} {x : Str} {i j : Nat} {p np apos pos pos2 : Pos} {e o ei : PySem.Expr} {f g k : Loc→Store→Ke→Kv→Prop}
theorem Dl_el {z : D} {K : List D→Prop} {I : Imm} {a : Value} {T : Value→Prop} (h : Dl z K) (r : RepD I a z) (k : ∀ l,RepD I a (.lst l)→K l→T a) : T a:=by
 cases z with
 | lst l=>exact k l r h
 | _=>exact h.elim
theorem s_ext (hx : F.vs.lookup x=some i) (hd : (x == ("__debug__" : Str))=false) (hl : (apos.endLine == pos.line)=true) (hs : Plain1 F.env e) (h1 : SndE W F e f) :
  SndS W F (.Expr (.Call (.Attribute (.Name x np) "extend" apos) [e] [] pos) pos2) (fun N j Γ σ=>wOnL Γ i σ fun a=>f Γ σ j.E fun v σ=>Vd v fun d=>Dl d fun ys=>Ls σ a fun xs=>Bt (fitD (xs ++ ys)) (N Γ (σ.set a (.lst (xs ++ ys))))):=fun {C Γ} fs S N J h Q E hQ hE=>
 wpAny_Expr_any (lmeth_wp hx hd hl (plain1 hs) rfl PySem.F.slot_list_extend PySem.F.type_list_extend h fun j a rl _ h=>callM_wp (plain1 hs) (wpAny_items_cons (h1 S h (fun v cv S1 l1 r1 h=>wpAny_items_nil (Vd_el h r1 fun y rd h=>Dl_el (T:=fun cv=>wpAny W.m C.A (call (.builtin "list.extend") [.ref a,cv]) (fun _=>Q .next) E S1.s) h rd fun ys rd h=>ls_el h fun xs hj h=>bt_el h fun hf h=>by
  refine mut_at (T:=fun cl=>∀ a,cl=.ref a→wpAny W.m C.A (call (.builtin "list.extend") [.ref a,cv]) _ E S1.s) (l1.rep rl) hj (fun a cvs hM pl rs hlen a' e=>?_) a rfl
  cases e
  refine Sq.el (T:=fun cv=>wpAny W.m C.A (call (.builtin "list.extend") [.ref a,cv]) _ E S1.s) rd fun b ob cvy nb eo co dob ro=>E11 pl fun n1 hget=>?_
  have hz : cvs.toArray.size + cvy.toArray.size≤sizeLine:=by
   rw [List.size_toArray,List.size_toArray,rs.length,ro.1.length,← lim_eq,← List.length_append]; exact fitDle hf
  refine call_meets PySem.F.slot_list_extend ⟨_,hget,rfl⟩ PySem.F.entry_list_extend (PySem.F.args_list_extend_2 _ _) (list_extend_any a cvs.toArray n1 b ob cvy.toArray nb co dob ?_ (tr hz) (tm hz)) ⟨hget,S1.X.inv.imm _ _ eo,?_⟩
  ·unfold Builtin.List.listTooLong
   rw [decide_eq_false (Nat.not_lt_of_le hz),Bool.and_false]
   exact Bool.false_ne_true
  ·exact S1.turn (tk:=S1.s.toks) (c':=.lst (cvs ++ cvy)) (e':=.lst (xs ++ ys)) hM (fun b o hb e=>(Heap.get?_update_other _ _ (Ne.symm hb)).trans e) (show Heap.PlainList _ _ _ by rw [← List.append_toArray]; exact plain_update hget _) ⟨_,rfl,rs.append ro.1,fitDle hf⟩ wf_lst fun S2 l2 e2=>hQ.n S2 (l1.trans l2).x (e2 ▸ h))) hE.toE) (hs _))) C.dull rfl
theorem snd_pop (hx : F.vs.lookup x=some i) (hd : (x == ("__debug__" : Str))=false) (hl : (apos.endLine == pos.line)=true) :
  SndE W F (.Call (.Attribute (.Name x np) "pop" apos) [] [] pos) (fun Γ σ _ K=>wOnL Γ i σ fun j=>Ls σ j fun xs=>Op xs.getLast? fun x=>K (.d x) (σ.set j (.lst xs.dropLast))):=fun {C Γ} S KE K h Q E hQ hE=>
 lmeth_wp hx hd hl Plains.nil rfl PySem.F.slot_list_pop PySem.F.type_list_pop h fun j a rl _ h=>callWith_method0 (ls_el h fun xs hj h=>op_el h fun y hy h=>by
  refine mut_at (T:=fun cl=>∀ a,cl=.ref a→wpAny W.m C.A (call (.builtin "list.pop") [.ref a]) Q E S.s) rl hj (fun a cvs hM pl rs hlen a' e=>?_) a rfl
  cases e
  refine E11 pl fun n1 hget=>?_
  have e2:=rs.length
  have hyy : xs[xs.length - 1]?=some y:=by rw [← List.getLast?_eq_getElem?]; exact hy
  refine E12 (rs.get hyy) fun v hv rv=>?_
  refine call_meets PySem.F.slot_list_pop ⟨_,hget,rfl⟩ PySem.F.entry_list_pop (PySem.F.args_list_pop_1 _) (list_pop_any a cvs.toArray n1 v ?_ ?_ ?_) ⟨hget,?_⟩
  ·rw [List.size_toArray,e2,List.getElem?_toArray]; exact hv
  ·rw [List.size_toArray,e2,← lim_eq]; exact hlen
  ·cases cvs with
   | nil=>cases hv
   | cons=>rfl
  ·have p'':=plain_update hget (fun x=>x.eraseIdxIfInBounds (cvs.toArray.size - 1))
   rw [List.size_toArray,erase_last] at p''
   exact S.turn (tk:=S.s.toks) (c':=.lst cvs.dropLast) (e':=.lst xs.dropLast) hM (fun b o hb e=>(Heap.get?_update_other _ _ (Ne.symm hb)).trans e) p'' ⟨_,rfl,by rw [List.dropLast_eq_take,List.dropLast_eq_take,e2]; exact rs.take _,by rw [List.length_dropLast]; exact Nat.le_trans (Nat.sub_le _ _) hlen⟩ wf_lst fun S2 l2 e2=>hQ (.d y) v S2 l2 (l2.rep (.d rv)) (e2 ▸ h))
theorem s_setI (hs : NoSw F e) (h1 : SndE W F e f) (h2 : SndE W F o g) (h3 : SndE W F ei k) :
  SndS W F (.Assign [.Subscript o ei p] e pos) (fun N j Γ σ=>f Γ σ j.E fun v σ=>g Γ σ j.E fun x σ=>k Γ σ j.E fun q σ=>Vd v fun y=>Vl x fun a=>Vd q fun d=>Di d fun n=>Ls σ a fun xs=>Bt (decide (0≤n) && decide (n < xs.length)) (N Γ (σ.set a (.lst (xs.set n.toNat y))))):=fun {C Γ} fs S N J h Q E hQ hE=>
 wpAny_Assign_Subscript (h1 S h (fun v cv S1 l1 r1 h=>h2 S1 h (fun x cx S2 l2 r2 h=>h3 S2 h (fun q cq S3 l3 r3 h=>Vd_el h r1 fun y rd h=>by
  cases x with
  | l j=>
   refine int_el h r3 fun m t h=>ls_el h fun xs hj h=>bt_el h fun hb h=>?_
   have hb:=Bool.and_eq_true_iff.mp hb
   have hb2:=of_decide_eq_true hb.2
   refine mut_at (T:=fun cx=>wpAny W.m C.A (setItem cx (.int m t) cv) _ E S3.s) (l3.rep r2) hj fun a cvs hM pl rs hlen=>setItem_plain pl (of_decide_eq_true hb.1) (Int.lt_trans hb2 (len_lim hlen)) (by rw [List.size_toArray,rs.length]; exact hb2) fun h' p' sb=>?_
   exact S3.turn (tk:=S3.s.toks) (c':=.lst (cvs.set m.toNat cv)) (e':=.lst (xs.set m.toNat y)) hM (same_but sb) (show h'.PlainList _ _ by rw [← List.setIfInBounds_toArray]; exact p') ⟨_,rfl,rs.set (rd.mono (l2.trans l3).g.I) _,by rw [List.length_set]; exact hlen⟩ wf_lst fun S4 l4 e4=>hQ.n S4 (((l1.trans l2).trans l3).trans l4).x (e4 ▸ h)
  | _=>exact h.elim) (hE.toE.up (l1.trans l2))) (hE.toE.up l1)) hE.toE) (hs _ _)
end
end Mine
namespace Mine
open PySem PySem.W PySem.Calls PyProof.Rows
noncomputable abbrev Ks:=Str→Option NameKind
noncomputable def St1 (F : Fx) (t : Value→Sem Unit) (i : Nat) : Prop:=∃ x,Nm F x i∧∀ (M : Model) (A : Around) (Q : Unit→Shared→Prop) (E : Value→Shared→Prop) (s : Shared) (v : Value),wpAny M A (storeName F.env x v) Q E s→wpAny M A (t v) Q E s
noncomputable def Stores (F : Fx) : List (Value→Sem Unit)→List Nat→Prop
 | [],is=>is=[]
 | t :: ts,is=>∃ i js,is=i :: js∧St1 F t i∧Stores F ts js
noncomputable def tgtOk (ks : Ks) (vs : Vars) (i : Nat) : PySem.Expr→Bool:=eName fun x=>ks x == some .local && vs.lookup x == some i
noncomputable def tgtsOk (ks : Ks) (vs : Vars) : List PySem.Expr→List Nat→Bool
 | [],is=>is.isEmpty
 | e :: es,is=>hdL (fun i js=>tgtOk ks vs i e && tgtsOk ks vs es js) is
section
variable {W : Wo} {F : Fx} {C : Cx F} {Γ Γ' : Loc} {S : Sx W C Γ} {Q : Flow→Shared→Prop} {E : Value→Shared→Prop} {x : Str} {i j kk : Nat} {p tp pos : Pos} {e o ei : PySem.Expr} {es ts : List PySem.Expr} {f g k : Loc→Store→Ke→Kv→Prop} {is js : List Nat} {us vs : List V} {cvs : List Value} {tt uu : List (Value→Sem Unit)}
theorem setLs_cons {T : Prop} (e : setLs Γ (i :: is) us=some Γ') (k : ∀ u ws,us=u :: ws→setLs (setL Γ i u) is ws=some Γ'→T) : T:=by
 cases us with
 | nil=>cases e
 | cons u ws=>exact k u ws rfl e
theorem setLs_nil {T : List V→Loc→Prop} (e : setLs Γ [] us=some Γ') (k : T [] Γ) : T us Γ':=by
 cases us with
 | nil=>cases e; exact k
 | cons u ws=>cases e
theorem stores_wp (hj : Inj F.vs) {Q : Unit→Shared→Prop} (st : Stores F tt is) (e : setLs Γ is us=some Γ') (r : RepVs W S.G.I S.G.α cvs us) (h : ∀ S' : Sx W C Γ',LeX S S'→S'.σ=S.σ→S'.G.I=S.G.I→S'.G.M=S.G.M→Q () S'.s) : wpAny W.m C.A (assignInOrder tt cvs) Q E S.s:=by
 induction tt generalizing is us cvs Γ with
 | nil=>
  subst st
  exact setLs_nil (T:=fun us Γ'=>RepVs W S.G.I S.G.α cvs us→(∀ S' : Sx W C Γ',LeX S S'→S'.σ=S.σ→S'.G.I=S.G.I→S'.G.M=S.G.M→Q () S'.s)→wpAny W.m C.A (assignInOrder [] cvs) Q E S.s) e (fun r h=>by
   rw [show cvs=[] from r]
   exact assignInOrder_nil (h S (.refl S) rfl rfl rfl)) r h
 | cons t tt ih=>
  exact st.elim fun i st=>E13 st fun js q h1 h2=>by
   subst q
   exact setLs_cons e fun u ws q e=>by
    subst q
    exact r.el fun cv cws q ru rs=>by
     subst q
     exact E12 h1 fun x nm hst=>assignInOrder_cons (hst _ _ _ _ _ _ (store_wp hj nm ru fun S2 l2 e2 eI eM=>ih h2 e (S:=S2) (by rw [Gh.α,eI,eM]; exact rs) fun S3 l3 e3 eI3 eM3=>h S3 (l2.trans l3) (e3.trans e2) (eI3.trans eI) (eM3.trans eM)))
theorem stores_of {vs : Vars} (hv : vs=F.vs) (ok : tgtsOk F.env.kindOf vs es is=true) : Stores F ((assignEach es F.env).map (·.2)) is∧(assignEach es F.env).length=is.length∧(assignEach es F.env).findIdx? (·.1)=none:=by
 subst hv
 induction es generalizing is with
 | nil=>exact nil_el (P:=fun is=>Stores F [] is∧0=is.length∧_) ok ⟨rfl,rfl,rfl⟩
 | cons e es ih=>
  refine hdL_el (P:=fun is=>Stores F ((assignEach (e :: es) F.env).map (·.2)) is∧(assignEach (e :: es) F.env).length=is.length∧_) ok fun i js h=>an2 h fun h1 h2=>?_
  refine eName_el (P:=fun e=>Stores F ((assignEach (e :: es) F.env).map (·.2)) (i :: js)∧(assignEach (e :: es) F.env).length=js.length + 1∧(assignEach (e :: es) F.env).findIdx? (·.1)=none) h1 fun x p h=>an2 h fun h3 h4=>E03 (ih h2) fun a b c=>?_
  rw [show assignEach (.Name x p :: es) F.env=(false,assign (.Name x p) F.env) :: assignEach es F.env from rfl]
  exact ⟨⟨i,js,rfl,⟨x,⟨eq_of_beq h3,eq_of_beq h4⟩,fun M A Q E s v q=>wpAny_assign_Name q⟩,a⟩,congrArg (· + 1) b,by rw [List.findIdx?_cons,c]; rfl⟩
theorem setLs_len (h : setLs Γ is us=some Γ') : is.length=us.length:=by
 induction is generalizing us Γ with
 | nil=>exact setLs_nil (T:=fun us _=>0=us.length) h rfl
 | cons i is ih=>exact setLs_cons h fun u ws q e=>q ▸ congrArg (· + 1) (ih e)
theorem RepVs.ofDs {I : Imm} {α : List Addr} {ds : List D} (h : RepDs I cvs ds) : RepVs W I α cvs (ds.map .d):=by
 induction ds generalizing cvs with
 | nil=>exact h
 | cons d ds ih=>exact h.el fun v us e r rs=>e ▸ .cons (x:=.d d) r (ih rs)
theorem unpack_wp (hj : Inj F.vs) {t : Addr} {Q : Unit→Shared→Prop} (ok : tgtsOk F.env.kindOf F.vs es is=true) (ht : IsTup S.s.heap t cvs.toArray) (e : setLs Γ is us=some Γ') (r : RepVs W S.G.I S.G.α cvs us)
  (h : ∀ S' : Sx W C Γ',LeX S S'→S'.σ=S.σ→S'.G.I=S.G.I→S'.G.M=S.G.M→Q () S'.s) : wpAny W.m C.A (assign (.Tuple es kk tp) F.env (.ref t)) Q E S.s:=
 E03 (stores_of rfl ok) fun a b c=>assign_Tuple_tuple C.r.handled ht (by rw [b,List.size_toArray,r.length,setLs_len e]) c fun h' hx=>
  stores_wp (S:=S.to S.G S.σ h' S.s.toks (.refl _) (S.X.but (get_size _) fun b o hb e=>hx b o hb e)) hj a e r fun S' l e2 eI eM=>h S' ⟨l.g,l.s⟩ e2 eI eM
theorem s_asgT (hj : Inj F.vs) (ok : tgtsOk F.env.kindOf F.vs es is=true) (hs : NoSw F e) (ht : ∀ es k p,swappedStores [.Tuple es k p] e F.env=pure none) (h1 : SndE W F e f) :
  SndS W F (.Assign [.Tuple es kk tp] e pos) (fun N j Γ σ=>f Γ σ j.E fun v σ=>Vd v fun d=>Dt d fun ds=>Op (setLs Γ is (ds.map .d)) fun Γ=>N Γ σ):=fun {C Γ} fs S N J h Q E hQ hE=>
 Assign_Tuple (h1 S h (fun v cv S1 l1 r1 h=>Vd_el h r1 fun d rd h=>Dt_el h rd fun ds rd h=>op_el h fun Γ' e h=>
  tup_at S1.X.inv.imm (T:=fun cv=>wpAny W.m C.A (assign (.Tuple es kk tp) F.env cv) _ E S1.s) rd fun a cvs ht rs _=>unpack_wp hj ok ht e (.ofDs rs) fun S2 l2 e2 _ _=>hQ.n S2 (l1.x.trans l2) (e2 ▸ h)) hE.toE) (hs (some (.Tuple es kk tp)) pos.line) (ht _ _ _)
noncomputable def swapChk (ts vs' : List PySem.Expr) : Option Bool:=
 if (ts.length == 2 || ts.length == 3) && vs'.length == ts.length && !(vs'.any fun | .Starred ..=>true | _=>false) then
  (if vs'.all (foldedForSure 8) then some false else if vs'.all (constantsAlone 8) then none else some true)
 else none
noncomputable def nmsOf (es : List PySem.Expr) : List Str:=es.filterMap fun e=>match e with
 | .Name x _=>some x
 | _=>none
noncomputable def oneLine (ts : List PySem.Expr) : Bool:=ts.all fun t=>t.pos.line == (ts.head?.map (·.pos.line)).getD 0
theorem names_of {k : Nat} (h : tgtsOk F.env.kindOf F.vs es is=true) (hl : (es.all fun t=>t.pos.line == k)=true) : (es.filterMap fun
   | .Name id pos=>if F.env.kindOf id == some .local && pos.line == k then some id else none
   | _=>none)=nmsOf es∧(nmsOf es).length=es.length∧Stores F ((nmsOf es).map fun n=>bindName F.env n) is:=by
 induction es generalizing is with
 | nil=>exact nil_el (P:=fun is=>_∧_∧Stores F _ is) h ⟨rfl,rfl,rfl⟩
 | cons e es ih=>
  have hl:=Bool.and_eq_true_iff.mp hl
  refine hdL_el (P:=fun is=>_∧_∧Stores F ((nmsOf (e :: es)).map fun n=>bindName F.env n) is) h fun i js h=>an2 h fun h1 h2=>?_
  have hl1:=hl.1
  revert hl1
  refine eName_el (P:=fun e=>(e.pos.line == k)=true→((e :: es).filterMap fun
   | .Name id pos=>if F.env.kindOf id == some .local && pos.line == k then some id else none
   | _=>none)=nmsOf (e :: es)∧(nmsOf (e :: es)).length=(e :: es).length∧Stores F ((nmsOf (e :: es)).map fun n=>bindName F.env n) (i :: js)) h1 fun x p h hl1=>an2 h fun h3 h4=>E03 (ih h2 hl.2) fun a b c=>?_
  have hl1 : (p.line == k)=true:=hl1
  refine ⟨?_,congrArg (· + 1) b,i,js,rfl,⟨x,⟨eq_of_beq h3,eq_of_beq h4⟩,fun M A Q E s v q=>wpAny_bindName q⟩,c⟩
  rw [List.filterMap_cons]
  dsimp only
  rw [h3,hl1,if_pos (by decide),a]; rfl
theorem Cx.blockFn (C : Cx F) : F.env.blockKind=.function:=by unfold Env.blockKind; rw [C.e.kind]; rfl
theorem swapped_of {ts vs' : List PySem.Expr} {k1 k2 : Nat} {p1 p2 : Pos} {b : Bool} (C : Cx F) (ok : tgtsOk F.env.kindOf F.vs ts is=true) (hl : oneLine ts=true) (hd : (nmsOf ts).eraseDups.length=(nmsOf ts).length) (hc : swapChk ts vs'=some b) :
  swappedStores [.Tuple ts k1 p1] (.Tuple vs' k2 p2) F.env=pure (if b then some (nmsOf ts) else none):=by
 unfold swapChk at hc
 split at hc
 ·rename_i hb
  rw [Bool.and_eq_true,Bool.and_eq_true] at hb
  obtain ⟨⟨a1,a2⟩,a3⟩:=hb
  unfold swappedStores
  show (if (!(ts.length == 2 || ts.length == 3) || vs'.length != ts.length || F.env.blockKind != .function)=true then pure none else _)=_
  have e0 : (!(ts.length == 2 || ts.length == 3) || vs'.length != ts.length || F.env.blockKind != .function)=false:=by
   rw [a1,C.blockFn,show (vs'.length != ts.length)=false by rw [bne,a2]; rfl]; rfl
  rw [e0,if_neg Bool.false_ne_true]
  show (if (vs'.any fun | .Starred ..=>true | _=>false)=true then pure none else _)=_
  rw [Bool.not_eq_true'] at a3
  rw [a3,if_neg Bool.false_ne_true]
  refine E03 (names_of ok hl) fun n1 n2 _=>?_
  dsimp only
  generalize hN : List.filterMap _ ts=N
  have hN' : N=nmsOf ts:=hN.symm.trans n1
  clear hN n1
  subst hN'
  rw [hd,n2,if_neg (by rw [bne_self_eq_false]; exact Bool.false_ne_true)]
  split at hc
  ·rename_i hf
   cases hc
   rw [hf,if_pos rfl,if_neg Bool.false_ne_true]
  ·rename_i hf
   split at hc
   ·cases hc
   ·rename_i hk
    cases hc
    rw [if_neg hf,if_neg hk,if_pos rfl]
 ·cases hc
theorem Stores.append (a : Stores F tt is) (b : Stores F uu js) : Stores F (tt ++ uu) (is ++ js):=by
 induction tt generalizing is with
 | nil=>exact (show is=[] from a) ▸ b
 | cons t tt ih=>exact a.elim fun i a=>E13 a fun ks e h1 h2=>e ▸ ⟨i,ks ++ js,rfl,h1,ih h2⟩
theorem Stores.rev (a : Stores F tt is) : Stores F tt.reverse is.reverse:=by
 induction tt generalizing is with
 | nil=>exact (show is=[] from a) ▸ rfl
 | cons t tt ih=>
  exact a.elim fun i a=>E13 a fun ks e h1 h2=>by
   rw [e,List.reverse_cons,List.reverse_cons]
   exact (ih h2).append ⟨i,[],rfl,h1,rfl⟩
theorem RepVs.rev {I : Imm} {α : List Addr} (h : RepVs W I α cvs us) : RepVs W I α cvs.reverse us.reverse:=by
 induction us generalizing cvs with
 | nil=>exact (show cvs=[] from h) ▸ rfl
 | cons u us ih=>
  exact h.el fun v ws e r rs=>by
   rw [e,List.reverse_cons,List.reverse_cons]
   exact (ih rs).append (.cons (xs:=[]) r rfl)
theorem setLs_app (h : setLs Γ is us=some Γ') : setLs Γ (is ++ js) (us ++ vs)=setLs Γ' js vs:=by
 induction is generalizing us Γ with
 | nil=>exact setLs_nil (T:=fun us Γ'=>setLs Γ ([] ++ js) (us ++ vs)=setLs Γ' js vs) h rfl
 | cons i is ih=>exact setLs_cons h fun u ws q e=>q ▸ ih e
theorem setLs_set {u : V} (hi : i ∉ is) (h : setLs Γ is us=some Γ') : setLs (setL Γ i u) is us=some (setL Γ' i u):=by
 induction is generalizing us Γ with
 | nil=>exact setLs_nil (T:=fun us Γ'=>setLs (setL Γ i u) [] us=some (setL Γ' i u)) h rfl
 | cons j is ih=>
  exact setLs_cons h fun v ws q e=>by
   rw [List.mem_cons,not_or] at hi
   subst q
   show setLs (setL (setL Γ i u) j v) is ws=_
   rw [show setL (setL Γ i u) j v=setL (setL Γ j v) i u from List.set_comm _ _ hi.1]
   exact ih hi.2 e
theorem setLs_ex (h : is.length=us.length) : ∃ Γ',setLs Γ is us=some Γ':=by
 induction is generalizing us Γ with
 | nil=>cases us with
  | nil=>exact ⟨Γ,rfl⟩
  | cons=>cases h
 | cons i is ih=>cases us with
  | nil=>cases h
  | cons u us=>exact ih (Nat.succ.inj h)
theorem setLs_rev (nd : is.Nodup) (h : setLs Γ is us=some Γ') : setLs Γ is.reverse us.reverse=some Γ':=by
 induction is generalizing us Γ Γ' with
 | nil=>exact setLs_nil (T:=fun us Γ'=>setLs Γ [] us.reverse=some Γ') h rfl
 | cons i is ih=>
  exact setLs_cons h fun u ws q e=>by
   have nd:=List.nodup_cons.mp nd
   subst q
   rw [List.reverse_cons,List.reverse_cons]
   refine E11 (setLs_ex (Γ:=Γ) (setLs_len e)) fun Γ₂ e2=>?_
   rw [setLs_set nd.1 e2] at e
   cases e
   exact (setLs_app (ih nd.2 e2)).trans rfl
theorem s_asgP {k1 k2 : Nat} {p1 p2 : Pos} {b : Bool} {g : Loc→Store→Ke→(List V→Store→Prop)→Prop} (hj : Inj F.vs) (ok : tgtsOk F.env.kindOf F.vs ts is=true) (hl : oneLine ts=true) (hd : (nmsOf ts).eraseDups.length=(nmsOf ts).length)
  (hn : is.Nodup) (hz : is.length≤100) (hc : swapChk ts es=some b) (h1 : SndR W F es g) :
  SndS W F (.Assign [.Tuple ts k1 p1] (.Tuple es k2 p2) pos) (fun N j Γ σ=>g Γ σ j.E fun vs σ=>Op (setLs Γ is vs) fun Γ=>N Γ σ):=fun {C Γ} fs S N J h Q E hQ hE=>by
 have hsw:=swapped_of (k1:=k1) (k2:=k2) (p1:=p1) (p2:=p2) C ok hl hd hc
 have ev : ∀ {T : Value→Shared→Prop},(∀ us cvs Γ' (S1 : Sx W C Γ) t,LeX S S1→RepVs W S1.G.I S1.G.α cvs us→IsTup S1.s.heap t cvs.toArray→setLs Γ is us=some Γ'→N Γ' S1.σ→T (.ref t) S1.s)→wpAny W.m C.A (eval (.Tuple es k2 p2) F.env) T E S.s:=fun {T} go=>
  PySem.wpAny_Tuple (h1 S h (fun us cvs S1 l1 r1 h=>op_el h fun Γ' hΓ h=>⟨by rw [r1.length,← setLs_len hΓ,← lim_eq]; exact Nat.le_trans hz (by decide),
   go us cvs Γ' (S1.to S1.G S1.σ (S1.s.heap.push { cls:=.type "tuple",data:=.seq cvs.toArray }) S1.s.toks (.refl _) (S1.X.but (get_size _) (push_keeps _))) _ (l1.trans (S1.to_le _ _)).x r1 (IsTup.new _ _) hΓ h⟩) hE.toE)
 cases b with
 | false=>exact Assign_Tuple (ev fun us cvs Γ' S1 t l1 r1 ht hΓ h=>unpack_wp hj ok ht hΓ r1 fun S2 l2 e2 _ _=>hQ.n S2 (l1.trans l2) (e2 ▸ h)) rfl hsw
 | true=>
  refine Assign_Tuple_swapped (names:=nmsOf ts) (ev fun us cvs Γ' S1 t l1 r1 ht hΓ h=>?_) rfl hsw
  have st:=names_of ok hl
  have e5 : (nmsOf ts).length=cvs.toArray.size:=by
   rw [List.size_toArray,r1.length,← setLs_len hΓ,st.2.1]
   exact (show ∀ es is,tgtsOk F.env.kindOf F.vs es is=true→es.length=is.length from fun es=>by
    induction es with
    | nil=>exact fun is h=>nil_el (P:=fun is=>0=is.length) h rfl
    | cons e es ih=>exact fun is h=>hdL_el (P:=fun is=>_=is.length) h fun i js h=>an2 h fun _ h2=>congrArg (· + 1) (ih _ h2)) ts is ok
  rw [e5]
  refine unpackItems_tuple C.r.handled ht fun h'' hx=>?_
  rw [List.map_reverse]
  exact stores_wp (S:=S1.to S1.G S1.σ h'' S1.s.toks (.refl _) (S1.X.but (get_size _) fun b o hb e=>hx b o hb e)) hj st.2.2.rev (setLs_rev hn hΓ) r1.rev fun S2 l2 e2 _ _=>hQ.n S2 (l1.trans ((S1.to_le (.refl _) _).x.trans l2)) (e2 ▸ h)
theorem s_while {B : Prop→Prop} (hB : ∀ P,B P→P) {t : PySem.Expr} {b : List Stmt} {ft : Loc→Store→Ke→Kb→Prop} {fb : Kn→J→Loc→Store→Prop} (ht : SndT W F t ft) (hb : SndSs W F b fb) :
  SndS W F (.While t b [] pos) (fun N j Γ σ=>B (wWhile ft fb N j WW Γ σ)):=fun {C Γ} fs S N J h Q E hQ hE=>by
 refine whl_start 0 ?_
 have gen : ∀ (n : Nat) {Γ' : Loc} (S1 : Sx W C Γ'),LeX S S1→wWhile ft fb N J n Γ' S1.σ→WhlRest W.prog W.w C.A E F.env t b [] Q 0 S1.s:=by
  intro n
  induction n with
  | zero=>exact fun _ _ h=>h.elim
  | succ n ih=>
   intro Γ' S1 l1 h
   have lp : ∀ {Γ2 : Loc} (S2 : Sx W C Γ2) x,LeX S S2→Fly W S2.G.I C.L x S2.s.heap→J.E S2.σ→notedBy W.m C.A F.env (cameBackBy W.m C.A F.env E) (.ref x) S2.s:=fun S2 x l2 fl h=>loop_wp fs fl fun S3 l3 e3 fl3=>hE S3 x (l2.trans l3.x) fl3 (e3 ▸ h)
   unfold WhlRest
   refine codeAny_of_tree ?_
   show wpAny _ C.A ((whileTurn t b [] F.env).onRaise (fun x=>do noteFrame x F.env; theTreesLotGoes x)) _ _ _
   refine wpAny_noted (wpAny_bind (ht S1 h (fun c S2 l2 h=>?_) fun S2 x l2 fl h=>lp S2 x (l1.trans l2.x) fl h))
   cases c with
   | false=>exact wpAny_bind (wpAny_execs_nil (wpAny_pure (hQ.n S2 (l1.trans l2.x) h)))
   | true=>
    exact wpAny_bind (hb fs S2 h ⟨fun S3 l3 h=>wpAny_pure ⟨rfl,ih S3 (l1.trans (l2.x.trans l3)) h⟩,fun S3 l3 h=>wpAny_pure (hQ.n S3 (l1.trans (l2.x.trans l3)) h),fun S3 k cv v l3 r h=>wpAny_pure (hQ.z S3 k cv v (l1.trans (l2.x.trans l3)) r h)⟩ fun S3 x l3 fl h=>lp S3 x (l1.trans (l2.x.trans l3)) fl h)
 exact gen WW S (.refl S) (hB _ h)
end
end Mine
namespace Mine
open PySem PySem.W PySem.Calls PyProof.Rows
noncomputable def isIter (o : Obj) : Prop:=(o.cls=.type "tuple_iterator"∨o.cls=.type "list_iterator"∨o.cls=.type "range_iterator")∧∃ vs,o.data=.fields vs
noncomputable def Imm.leS (I J : Imm) : Prop:=∀ b o,I b=some o→¬ isIter o→J b=some o
noncomputable def Imm.put (I : Imm) (a : Addr) (r : Option Obj) : Imm:=fun b=>if b=a then r else I b
section
variable {I J : Imm} {o : Obj} {it : Addr} {v : Value} {d : D} {ds : List D} {vs : List Value} {W : Wo} {α : List Addr} {cv : Value} {x : V}
theorem Imm.le.s (h : Imm.le I J) : Imm.leS I J:=fun b o e _=>h b o e
theorem Imm.leS.trans {L : Imm} (a : Imm.leS I J) (b : Imm.leS J L) : Imm.leS I L:=fun x o e n=>b x o (a x o e n) n
theorem put_leS {r : Option Obj} (e : I it=some o) (hi : isIter o) : Imm.leS I (I.put it r):=fun b x q nq=>by
 unfold Imm.put
 exact if z : b=it then by rw [z,e] at q; cases q; exact absurd hi nq else (if_neg z).trans q
theorem put_le {r : Option Obj} (h : Imm.le I J) (hn : I it=none) : Imm.le I (J.put it r):=fun b x q=>by
 unfold Imm.put
 exact if z : b=it then by rw [z,hn] at q; cases q else (if_neg z).trans (h b x q)
theorem iter_row (h : isRow o) : ¬ isIter o:=fun q=>E21 h fun vs n e=>E11 q.2 fun ws e'=>by rw [e] at e'; cases e'
theorem it_cls (h1 : o.cls ≠ .type "tuple_iterator") (h2 : o.cls ≠ .type "list_iterator") (h3 : o.cls ≠ .type "range_iterator") : ¬ isIter o:=fun q=>q.1.elim h1 fun q=>q.elim h2 h3
theorem ImmAt.monoS {R : Addr→Obj→Prop} (k : Imm.leS I J) (n : ∀ a o,R a o→¬ isIter o) (h : ImmAt I cv R) : ImmAt J cv R:=h.el (T:=fun v=>ImmAt J v R) fun a o e r=>⟨a,o,rfl,k a o e (n a o r),r⟩
theorem RepD.monoS (k : Imm.leS I J) (h : RepD I v d) : RepD J v d:=RepD.gen (fun b o e r=>k b o e (iter_row r)) d v h
theorem cls_ne {a b : String} (h : (a == b)=false) : Value.type a ≠ .type b:=fun e=>by cases e; rw [beq_self_eq_true] at h; cases h
theorem RepV.monoS (k : Imm.leS I J) (h : RepV W I α cv x) : RepV W J α cv x:=by
 induction x with
 | d x=>exact RepD.monoS k h
 | l i=>exact h
 | w j=>exact h.elim fun dx h=>⟨dx,h.1,h.2.monoS k fun a o r=>it_cls (by rw [r]; exact fun e=>nomatch e) (by rw [r]; exact fun e=>nomatch e) (by rw [r]; exact fun e=>nomatch e)⟩
 | fn f=>exact h
 | rng n=>exact ImmAt.monoS k (fun a o r=>E31 r fun t u v r=>by rw [r.1]; exact it_cls (cls_ne (by decide)) (cls_ne (by decide)) (cls_ne (by decide))) h
 | dct kvs=>exact ImmAt.monoS k (fun a o r=>it_cls (by rw [r.1]; exact cls_ne (by decide)) (by rw [r.1]; exact cls_ne (by decide)) (by rw [r.1]; exact cls_ne (by decide))) h
theorem FrRel.monoS {env : Env} {vs : Vars} {Γ : Loc} {m : Str→Option Value} (k : Imm.leS I J) (h : FrRel W env vs Γ I α m) : FrRel W env vs Γ J α m:=fun x i v e1 e2=>
 E12 (h x i v e1 e2) fun cv a b=>⟨cv,a.imp id fun h=>⟨h.1,h.2.elim fun c h=>h.elim fun o h=>⟨c,o,h.1,k _ _ h.2.1 (fun z=>E11 z.2 fun ws e'=>by rw [h.2.2] at e'; cases e'),h.2.2⟩⟩,b.monoS k⟩
end
section
variable {W : Wo} {F : Fx} {C : Cx F} {Γ Γ' : Loc} {S : Sx W C Γ} {Q : Flow→Shared→Prop} {E : Value→Shared→Prop} {it a : Addr} {o : Obj} {h' : Heap} {cv v : Value} {x : D} {xs ds : List D} {cvs : List Value} {t iter : PySem.Expr} {ts : List Nat}
theorem Sx.put (S : Sx W C Γ) (e0 : S.G.I it=some o) (hi : isIter o) (hb : W.base.get? it=none) (k : ∀ b o,b ∉ [it]→S.s.heap.get? b=some o→h'.get? b=some o) :
  St W { S.G with I:=S.G.I.put it (h'.get? it) } S.σ C.L C.Fs h'∧FrRel W F.env F.vs Γ (S.G.I.put it (h'.get? it)) S.G.α S.G.m:=by
 have ls : Imm.leS S.G.I (S.G.I.put it (h'.get? it)):=put_leS e0 hi
 have kb : But it S.s.heap h':=fun b o hb e=>k b o (fun z=>hb (List.mem_singleton.mp z)) e
 have ne : ∀ p∈led C.L S.G C.Fs,p.1 ≠ it:=fun p hp q=>by
  have:=(S.X.inv.mu p hp).1
  rw [q,e0] at this; cases this
 have I' : ∀ {b o},S.G.I.put it (h'.get? it) b=some o→(b=it→h'.get? it=some o)∧(b ≠ it→S.G.I b=some o):=fun {b o} q=>by
  unfold Imm.put at q
  exact ⟨fun z=>(if_pos z).symm.trans q,fun z=>(if_neg z).symm.trans q⟩
 refine ⟨⟨⟨fun b o2 q=>if z : b=it then z ▸ (I' q).1 z else kb b o2 z (S.X.inv.imm b o2 ((I' q).2 z)),fun p hp=>⟨(if_neg (ne p hp)).trans (S.X.inv.mu p hp).1,cell_same (S.X.inv.mu p hp).2 fun o2 q=>kb _ o2 (ne p hp) q⟩,S.X.inv.nd⟩,fun i e q=>E12 (S.X.ent i e q) fun p hp r=>⟨p,hp,r.mono (fun b o e r=>ls b o e (iter_row r)) List.prefix_rfl⟩,S.X.len,S.X.above,fun b o2 q=>(if_neg (fun z=>by rw [z,hb] at q; cases q)).trans (S.X.base b o2 q),S.X.wf⟩,S.f.monoS ls⟩
noncomputable abbrev Sx.step (S : Sx W C Γ) (tk : Nat) (e0 : S.G.I it=some o) (hi : isIter o) (hb : W.base.get? it=none) (k : ∀ b o,b ∉ [it]→S.s.heap.get? b=some o→h'.get? b=some o) : Sx W C Γ:=
 ⟨{ S.G with I:=S.G.I.put it (h'.get? it) },S.σ,{ S.s with heap:=h',toks:=tk },(S.put e0 hi hb k).1,(S.put e0 hi hb k).2⟩
theorem letGo_any {Q' : Unit→Shared→Prop} {A : Around} {s' : Shared} (ho : s'.heap.get? it=some o) (hi : isIter o) (h : Q' () s') :
  wpAny W.m A (letOwnedTupleGo t (.ref it) v) Q' E s':=by
 obtain ⟨hc,fs,hd⟩:=hi
 unfold letOwnedTupleGo
 split
 ·cases v with
  | ref a=>
   refine wpAny_bind (wpAny_load ho ?_)
   rcases hc with hc | hc | hc <;> (rw [hc,hd]; exact wpAny_pure h)
  | _=>exact wpAny_pure h
 ·cases v with
  | ref a=>
   refine wpAny_bind (wpAny_load ho ?_)
   rcases hc with hc | hc | hc <;> (rw [hc,hd]; exact wpAny_pure h)
  | _=>exact wpAny_pure h
 ·exact wpAny_pure h
noncomputable def bindOk (ks : Ks) (vs : Vars) (t : PySem.Expr) (ts : List Nat) : Bool:=eRun { eZ with k1:=fun x _=>l1 (fun i=>ks x == some .local && vs.lookup x == some i) ts,k2:=fun es _ _=>tgtsOk ks vs es ts && decide (2≤ts.length) } t
theorem bindT_el (hl : 2≤ts.length) (e : bindT Γ ts x=some Γ') : ∃ ds,x=.tup ds∧setLs Γ ts (ds.map .d)=some Γ':=by
 cases ts with
 | nil=>cases hl
 | cons i is=>cases is with
  | nil=>exact absurd (show 2≤1 from hl) (by decide)
  | cons j is=>cases x with
   | tup ds=>exact ⟨ds,rfl,e⟩
   | _=>cases e
theorem target_wp {Q : Unit→Shared→Prop} (hj : Inj F.vs) (ok : bindOk F.env.kindOf F.vs t ts=true) (e : bindT Γ ts x=some Γ') (r : RepD S.G.I v x)
  (h : ∀ S' : Sx W C Γ',LeX S S'→S'.σ=S.σ→S'.G.I=S.G.I→S'.G.M=S.G.M→Q () S'.s) : wpAny W.m C.A (assign t F.env v) Q E S.s:=by
 refine eRun_el (P:=fun t=>wpAny W.m C.A (assign t F.env v) Q E S.s) ok { eZP (fun t=>wpAny W.m C.A (assign t F.env v) Q E S.s) with k1:=fun y p ok=>?_,k2:=fun es k p ok=>?_ }
 ·revert e
  refine l1_el (P:=fun ts=>bindT Γ ts x=some Γ'→wpAny W.m C.A (assign (.Name y p) F.env v) Q E S.s) ok fun i ok e=>an2 ok fun h1 h2=>?_
  have e : some (setL Γ i (.d x))=some Γ':=e
  have e:=Option.some.inj e
  subst e
  exact wpAny_assign_Name (store_wp hj ⟨eq_of_beq h1,eq_of_beq h2⟩ (.d r) h)
 ·refine an2 ok fun h1 h2=>E12 (bindT_el (of_decide_eq_true h2) e) fun ds q e2=>?_
  subst q
  exact tup_at S.X.inv.imm (T:=fun v=>wpAny W.m C.A (assign (.Tuple es k p) F.env v) Q E S.s) r fun a cvs ht rs _=>unpack_wp hj h1 ht e2 (.ofDs rs) h
structure Src (W : Wo) (A : Around) (I : Imm) (it : Addr) (xs : List D) (Keep : Heap→Prop) (P : Nat→Value→Prop) (Sw : Nat→Heap→Prop) : Prop where
 W : ∃ fp,Walks W.prog W.w A it fp [it] xs.length P Sw
 frame : ∀ i h h' o,Sw i h→h.get? it=some o→h'.get? it=some o→Keep h'→Sw i h'
 item : ∀ i v J,Imm.leS I J→P i v→i < xs.length→∃ x,xs[i]?=some x∧RepD J v x
 iter : ∀ i h,Sw i h→∃ o,h.get? it=some o∧isIter o
noncomputable def Itr (W : Wo) (A : Around) (I : Imm) (s : Shared) (v : Value) (xs : List D) (Keep : Heap→Prop) : Prop:=∀ {Q E : Value→Shared→Prop},(∀ it o P Sw,it=s.heap.objs.size→Src W A I it xs Keep P Sw→isIter o→Sw 0 (s.heap.push o)→(s.heap.push o).get? it=some o→Q (.ref it) { s with heap:=s.heap.push o })→wpAny W.m A (pyIter v) Q E s
theorem lt_ne {h : Heap} (e : h.get? a=some o) : a ≠ h.objs.size:=Nat.ne_of_lt (Heap.lt_size e)
theorem itr_item {I J : Imm} {P : Nat→Value→Prop} {i : Nat} (rs : RepDs I cvs ds) (k : Imm.leS I J) (hP : cvs.toArray[i]?=some v) (hi : i < ds.length) : ∃ x,ds[i]?=some x∧RepD J v x:=
 E12 (rs.get (List.getElem?_eq_getElem hi)) fun v' hv r=>by
  rw [List.getElem?_toArray,hv] at hP
  cases hP
  exact ⟨_,List.getElem?_eq_getElem hi,r.monoS k⟩
theorem itr_tup {A : Around} {I : Imm} {s : Shared} (hh : A.handled=none) (ht : s.heap.IsTuple a cvs.toArray) (rs : RepDs I cvs ds) : Itr W A I s (.ref a) ds fun h'=>h'.IsTuple a cvs.toArray:=fun {Q E} h=>by
 refine PySem.wpAny_pyIter_tuple ht ?_
 have w:=Walks.tuple (prog:=W.prog) (w:=W.w) hh s.heap.objs.size a (E12 ht fun o e _=>lt_ne e) cvs.toArray
 rw [show cvs.toArray.size=ds.length from List.size_toArray.trans rs.length] at w
 exact h _ _ _ _ rfl ⟨⟨_,w⟩,fun i h h' o st e e' kp=>⟨st.1.at fun o2 q=>by rw [e] at q; cases q; exact e',kp⟩,fun i v J k hP hi=>itr_item (P:=fun _ _=>True) rs k hP hi,fun i h' st=>E13 st.1 fun o e hc hd=>⟨o,e,.inl hc,_,hd⟩⟩ ⟨.inl rfl,_,rfl⟩ ⟨⟨_,Heap.get?_push_size _ rfl,rfl,rfl⟩,ht.at fun o e=>Heap.get?_push_of_some _ e⟩ (Heap.get?_push_size _ rfl)
theorem itr_lst {A : Around} {I : Imm} {s : Shared} (hh : A.handled=none) (ht : s.heap.IsList a cvs.toArray) (rs : RepDs I cvs ds) : Itr W A I s (.ref a) ds fun h'=>h'.IsList a cvs.toArray:=fun {Q E} h=>by
 refine PySem.wpAny_pyIter_list ht ?_
 have w:=Walks.list (prog:=W.prog) (w:=W.w) hh s.heap.objs.size a (E12 ht fun o e _=>lt_ne e) cvs.toArray
 rw [show cvs.toArray.size=ds.length from List.size_toArray.trans rs.length] at w
 exact h _ _ _ _ rfl ⟨⟨_,w⟩,fun i h h' o st e e' kp=>⟨st.1.at fun o2 q=>by rw [e] at q; cases q; exact e',kp⟩,fun i v J k hP hi=>itr_item (P:=fun _ _=>True) rs k hP hi,fun i h' st=>E13 st.1 fun o e hc hd=>⟨o,e,.inr (.inl hc),_,hd⟩⟩ ⟨.inr (.inl rfl),_,rfl⟩ ⟨⟨_,Heap.get?_push_size _ rfl,rfl,rfl⟩,ht.at fun o e=>Heap.get?_push_of_some _ e⟩ (Heap.get?_push_size _ rfl)
theorem itr_rng {A : Around} {I : Imm} {s : Shared} {n : Nat} {t u v : Tok} (hh : A.handled=none) (hr : IsRange s.heap a 0 n 1 t u v) (hn : n≤1000000) : Itr W A I s (.ref a) (rngD n) fun _=>True:=fun {Q E} h=>by
 have hsz : Builtin.Range.rangeSize 0 n 1=(n : Int):=by
  unfold Builtin.Range.rangeSize
  simp
  try lia
 have hsm : Builtin.Range.small 0 n 1=true:=by
  unfold Builtin.Range.small
  rw [hsz]
  simp [Builtin.Range.rangeFitsLong]
  lia
 refine PySem.wpAny_pyIter_range hr hsm ?_
 have w:=Walks.range (prog:=W.prog) (w:=W.w) hh s.heap.objs.size 0 1 n
 have hl : (rngD n).length=n:=by unfold rngD; rw [List.length_map,List.length_range]
 rw [hsz]
 have w' : Walks W.prog W.w A s.heap.objs.size [s.heap.objs.size] [s.heap.objs.size] (rngD n).length (fun i v=>∃ t,v=.int (0 + i * 1) t) (fun i h=>IsRangeIter h s.heap.objs.size (0 + (i : Nat) * 1) ((n : Int) - (i : Nat)) 1):=by rw [hl]; exact w
 refine h _ _ _ _ rfl ⟨⟨_,w'⟩,fun i h h' o st e e' kp=>by have st : h.get? _=some _:=st; show h'.get? _=some _; rw [e',← e]; exact st,fun i v J k hP hi=>?_,fun i h' st=>⟨_,st,.inr (.inr rfl),_,rfl⟩⟩ ⟨.inr (.inr rfl),_,rfl⟩ ?_ (Heap.get?_push_size _ rfl)
 ·refine E11 hP fun t q=>?_; subst q
  refine ⟨.int i,?_,?_⟩
  ·rw [hl] at hi
   unfold rngD
   rw [List.getElem?_map,List.getElem?_range hi]; rfl
  ·rw [Int.zero_add,Int.mul_one]; exact .int _ _
 ·show IsRangeIter _ _ _ _ _
  simpa using Heap.get?_push_size _ rfl
theorem itr_of {T : Prop} {u : V} (r : S.rep cv u) (e : itemsV S.σ u=some xs) (k : ∀ Keep,Itr W C.A S.G.I S.s cv xs Keep→(∀ J h',Imm.le S.G.I J→(∀ b o,J b=some o→h'.get? b=some o)→Keep h')→xs.length≤LIM→T) : T:=by
 cases u with
 | d z=>
  cases z with
  | tup ds=>
   cases e
   exact Sq.el (T:=fun cv=>(∀ Keep,Itr W C.A S.G.I S.s cv xs Keep→(∀ J h',Imm.le S.G.I J→(∀ b o,J b=some o→h'.get? b=some o)→Keep h')→xs.length≤LIM→T)→T) r (fun a o vs n e1 e2 e3 r k=>k _ (itr_tup C.r.handled ⟨o,S.X.inv.imm _ _ e1,e2,n,e3⟩ r.1) (fun J h' le g=>⟨o,g _ _ (le _ _ e1),e2,n,e3⟩) r.2) k
  | lst ds=>
   cases e
   exact Sq.el (T:=fun cv=>(∀ Keep,Itr W C.A S.G.I S.s cv xs Keep→(∀ J h',Imm.le S.G.I J→(∀ b o,J b=some o→h'.get? b=some o)→Keep h')→xs.length≤LIM→T)→T) r (fun a o vs n e1 e2 e3 r k=>k _ (itr_lst C.r.handled ⟨o,S.X.inv.imm _ _ e1,e2,n,e3⟩ r.1) (fun J h' le g=>⟨o,g _ _ (le _ _ e1),e2,n,e3⟩) r.2) k
  | _=>cases e
 | rng n=>
  cases e
  exact ImmAt.el (T:=fun cv=>(∀ Keep,Itr W C.A S.G.I S.s cv (rngD n) Keep→(∀ J h',Imm.le S.G.I J→(∀ b o,J b=some o→h'.get? b=some o)→Keep h')→(rngD n).length≤LIM→T)→T) r (fun a o e1 r k=>E31 r fun t u v r=>k _ (itr_rng C.r.handled (show S.s.heap.get? a=_ from r.1 ▸ S.X.inv.imm _ _ e1) r.2) (fun _ _ _ _=>trivial) (by unfold rngD; rw [List.length_map,List.length_range]; exact dr r.2 (by decide))) k
 | _=>cases e
structure FInv (S : Sx W C Γ) (it : Addr) (g : Kn→J→Loc→Store→Prop) (ts : List Nat) (N : Kn) (Z : Kr) (xs : List D) (Sw : Nat→Heap→Prop) (i : Nat) {Γ' : Loc} (S' : Sx W C Γ') : Prop where
 sw : Sw i S'.s.heap
 k : LeX S S'
 ito : ∃ o,S'.G.I it=some o∧isIter o
 go : wFor g ts N Z (xs.drop i) Γ' S'.σ
 le : i≤xs.length
theorem for_turn {b : List Stmt} {g : Kn→J→Loc→Store→Prop} {N : Kn} {Jp : J} {Keep : Heap→Prop} {P : Nat→Value→Prop} {Sw : Nat→Heap→Prop} {i : Nat} {S' : Sx W C Γ'} {Qn : Shared→Prop}
  (hj : Inj F.vs) (ok : bindOk F.env.kindOf F.vs t ts=true) (fs : Fst C) (hb : SndSs W F b g) (hI0 : S.G.I it=none) (hbit : W.base.get? it=none) (w : Src W C.A S.G.I it xs Keep P Sw)
  (hkeep : ∀ J h',Imm.le S.G.I J→(∀ b o,J b=some o→h'.get? b=some o)→Keep h') (v : FInv S it g ts N Jp.Z xs Sw i S') (hQ : OutS S Q N Jp) {Re : Value→Shared→Prop}
  (fin : ∀ {Γ2} (S2 : Sx W C Γ2),FInv S it g ts N Jp.Z xs Sw (i + 1) S2→Qn S2.s) :
  wpAny W.m C.A (pyNext (.ref it)) (fun r s₁=>match r with
   | none=>wpAny W.m C.A (execs [] F.env) (fun f s₃=>Q f s₃) Re s₁
   | some v=>wpAny W.m C.A (letOwnedTupleGo t (.ref it) v) (fun _ s₁'=>
     wpAny W.m C.A (assign t F.env v) (fun _ s₂=>wpAny W.m C.A (execs b F.env) (fun f s₃=>match f with
      | .next | .cont=>Qn s₃
      | .brk=>Q .next s₃
      | .ret v=>Q (.ret v) s₃) Re s₂) Re s₁') Re s₁) Re S'.s:=by
 refine E11 w.W fun fp ww=>E12 v.ito fun oi hoi hoii=>?_
 have hp:=v.go
 by_cases hlt : i < xs.length
 ·refine ww.item i _ _ _ hlt v.sw fun x' h₂ tk₂ hPv hSw₂ hk₂=>E12 (w.iter _ _ hSw₂) fun o₂ ho₂ hio₂=>?_
  refine E12 (w.item i x' (S'.G.I.put it (h₂.get? it)) (Imm.leS.trans v.k.g.I.s (put_leS hoi hoii)) hPv hlt) fun x hx rx=>?_
  rw [List.drop_eq_getElem_cons hlt,Option.some.inj ((List.getElem?_eq_getElem hlt).symm.trans hx)] at hp
  refine op_el hp fun Γ₁ hbt hp=>letGo_any (s':=(S'.step tk₂ hoi hoii hbit hk₂).s) ho₂ hio₂ (target_wp (S:=S'.step tk₂ hoi hoii hbit hk₂) hj ok hbt rx fun S4 l4 e4 eI eM=>?_)
  have k4 : LeX S S4:=⟨⟨by rw [eI]; exact put_le v.k.g.I hI0,v.k.g.α.trans l4.g.α⟩,(v.k.s.trans (show Sm S'.s (S'.step tk₂ hoi hoii hbit hk₂).s from rfl)).trans l4.s⟩
  have o4 : S4.G.I it=some o₂:=by rw [eI]; exact (if_pos rfl).trans ho₂
  exact hb fs S4 (N:=wFor g ts N Jp.Z (xs.drop (i + 1))) (J:=⟨N,Jp.Z,No⟩) (show g _ _ Γ₁ S4.σ by rw [e4]; exact hp) ⟨fun S5 l5 h=>fin S5 ⟨w.frame _ _ _ _ hSw₂ ho₂ (S5.X.inv.imm _ _ (l5.g.I _ _ o4)) (hkeep _ _ (k4.trans l5).g.I S5.X.inv.imm),k4.trans l5,⟨o₂,l5.g.I _ _ o4,hio₂⟩,h,hlt⟩,fun S5 l5 h=>hQ.n S5 (k4.trans l5) h,fun S5 k cv v l5 r h=>hQ.z S5 k cv v (k4.trans l5) r h⟩ fun _ _ _ _ h=>h.elim
 ·have hin : i=xs.length:=Nat.le_antisymm v.le (Nat.le_of_not_lt hlt)
  have sw:=v.sw
  rw [hin] at sw hp
  refine ww.done _ _ _ sw fun h₂ tk₂ hk₂=>wpAny_execs_nil ?_
  rw [List.drop_length] at hp
  exact hQ.n (S'.step tk₂ hoi hoii hbit hk₂) ⟨⟨put_le v.k.g.I hI0,v.k.g.α⟩,v.k.s.trans (show Sm S'.s (S'.step tk₂ hoi hoii hbit hk₂).s from rfl)⟩ hp
theorem s_for {B : Prop→Prop} (hB : ∀ P,B P→P) {b : List Stmt} {pos : Pos} {f : Loc→Store→Ke→Kv→Prop} {g : Kn→J→Loc→Store→Prop} (hj : Inj F.vs) (ok : bindOk F.env.kindOf F.vs t ts=true) (hns : ∀ v,foldedSetIterable iter F.env v=pure v) (h1 : SndE W F iter f) (hb : SndSs W F b g) :
  SndS W F (.For t iter b [] pos) (fun N j Γ σ=>f Γ σ j.E fun x σ=>Op (itemsV σ x) fun xs=>B (wFor g ts N j.Z xs Γ σ)):=fun {C Γ} fs S N J h Q E hQ hE=>
 wpAny_For (h1 S h (fun v cv S1 l1 r1 h=>op_el h fun xs hxs h=>itr_of r1 hxs fun Keep itr hkeep _=>itr fun it o P Sw hit w hio hSw hget=>by
  have h:=hB _ h
  have hsz : S1.s.heap.get? it=none:=by rw [hit]; exact get_size _
  have hI0:=(S1.X.inv.fresh hsz).i
  have hbit : W.base.get? it=none:=by
   cases q : W.base.get? it with
   | none=>rfl
   | some o'=>have:=S1.X.base_get q; rw [hsz] at this; cases this
  refine E02 (S1.X.addI (h':=S1.s.heap.push o) (o:=o) hsz (fun b o' hb e=>Heap.get?_push_of_some _ e) hget) fun X₂ k₂=>?_
  exact codeAny_forLoop_any
   (fun k s'=>∃ (i : Nat) (Γ' : Loc) (S' : Sx W C Γ'),FInv S1 it g ts N J.Z xs Sw i S'∧s'=S'.s∧k=xs.length + 1 - i)
   (fun k s' z=>z.elim fun i z=>z.elim fun Γ' z=>z.elim fun S' z=>E03 z fun v es ek=>by
    rw [es]
    exact for_turn hj ok fs hb hI0 hbit w hkeep v (hQ.up l1.x) fun S2 v2=>⟨xs.length + 1 - (i + 1),by have:=v2.le; lia,i + 1,_,S2,v2,rfl,rfl⟩)
   (xs.length + 1) ⟨0,Γ,S1.to _ S1.σ (S1.s.heap.push o) S1.s.toks k₂ X₂,⟨hSw,(S1.to_le k₂ X₂).x,⟨o,if_pos rfl,hio⟩,h,Nat.zero_le _⟩,rfl,rfl⟩) hE.toE) hns
end
end Mine
namespace Mine
open PySem PySem.W PySem.Calls PyProof.Rows
noncomputable def relK (ks : Str→Option NameKind) (names : List (Str × NameKind)) : List (Str × NameKind):=names.map fun p=>(p.1,if p.2 == .free && ks p.1 == some .cell then .cell else p.2)
theorem relK_lookup {ks : Str→Option NameKind} {x : Str} : ∀ {names : List (Str × NameKind)},(relK ks names).lookup x=(names.lookup x).map fun k=>if k == .free && ks x == some .cell then .cell else k
 | []=>rfl
 | (n,k) :: r=>by
  have ih:=@relK_lookup ks x r
  show List.lookup x ((n,_) :: relK ks r)=_
  simp only [List.lookup_cons,List.lookup_cons]
  cases q : x == n with
  | true=>rw [beq_iff_eq.mp q]; rfl
  | false=>exact ih
theorem relabel_names {scope : Scope} {env : Env} (h : env.scope.kind=.function) : (relabel scope env).names=relK env.kindOf scope.names:=by
 unfold relabel relK
 dsimp only
 apply List.map_congr_left
 intro p _
 obtain ⟨n,k⟩:=p
 rw [h]
 dsimp only
 induction k <;> simp
 split <;> rfl
noncomputable def ks2 (ks : Str→Option NameKind) (scope : Scope) : Str→Option NameKind:=fun x=>(relK ks scope.names).lookup x
theorem comp_kind {scope : Scope} {env : Env} {cl : List (Str × Addr)} {C : Addr} (h : env.scope.kind=.function) (x : Str) : (compEnvC scope cl C env).kindOf x=ks2 env.kindOf scope x:=by
 show (relabel scope env).names.lookup x=_
 rw [relabel_names h]; rfl
noncomputable def compOk (ks : Str→Option NameKind) (scope : Scope) : Bool:=
 scope.kind == .function && scope.names.all fun p=>p.2 != .cell && (p.2 != .free || ks p.1 == some .cell) && (p.2 != .local || scope.names.lookup p.1 == some .local)
noncomputable def tvars (t : PySem.Expr) (ts : List Nat) : Vars:=(match t with
 | .Name x _=>[x]
 | .Tuple es _ _=>nmsOf es
 | _=>[]).zip ts
noncomputable def vs2 (ks : Str→Option NameKind) (scope : Scope) (t : PySem.Expr) (ts : List Nat) (vs : Vars) : Vars:=tvars t ts ++ vs.filter fun p=>ks2 ks scope p.1 == some .cell
noncomputable def nodupB : List Nat→Bool
 | []=>true
 | x :: r=>!r.contains x && nodupB r
theorem nodup_of : ∀ {l : List Nat},nodupB l=true→l.Nodup
 | [],_=>.nil
 | x :: r,h=>by
  unfold nodupB at h
  rw [Bool.and_eq_true] at h
  rw [List.nodup_cons]
  exact ⟨fun hm=>by have:=h.1; simp [hm] at this,nodup_of h.2⟩
noncomputable def injB (vs : Vars) : Bool:=nodupB (vs.map (·.2))
theorem inj_of {vs : Vars} (h : injB vs=true) : Inj vs:=by
 have nd:=nodup_of h
 intro x y i hx hy
 have hx:=mem_of_lookup hx
 have hy:=mem_of_lookup hy
 have gen : ∀ {vs : Vars},(vs.map (·.2)).Nodup→∀ {p q : Str × Nat},p∈vs→q∈vs→p.2=q.2→p=q:=by
  intro vs
  induction vs with
  | nil=>intro _ p q hp; cases hp
  | cons z r ih=>
   intro nd p q hp hq e
   rw [List.map_cons,List.nodup_cons] at nd
   rcases List.mem_cons.mp hp with h1 | h1 <;> rcases List.mem_cons.mp hq with h2 | h2
   ·rw [h1,h2]
   ·exact absurd (by rw [← h1,e]; exact List.mem_map_of_mem h2) nd.1
   ·exact absurd (by rw [← h2,← e]; exact List.mem_map_of_mem h1) nd.1
   ·exact ih nd.2 h1 h2 e
 exact congrArg Prod.fst (gen nd hx hy rfl)
theorem zip_snd {ns : List Str} : ∀ {is : List Nat} {x : Str} {i : Nat},(ns.zip is).lookup x=some i→i∈is:=by
 induction ns with
 | nil=>intro is x i h; cases h
 | cons n ns ih=>
  intro is x i h
  induction is with
  | nil=>cases h
  | cons j is=>
   simp only [List.zip_cons_cons,List.lookup_cons] at h
   cases q : x == n with
   | true=>rw [q] at h; cases h; exact .head _
   | false=>rw [q] at h; exact .tail _ (ih h)
theorem tvars_in {t : PySem.Expr} {ts : List Nat} {x : Str} {i : Nat} (h : (tvars t ts).lookup x=some i) : i∈ts:=zip_snd h
theorem filter_lookup {p : Str→Bool} {x : Str} {i : Nat} : ∀ {vs : Vars},(vs.filter fun q=>p q.1).lookup x=some i→vs.lookup x=some i∧p x=true
 | [],h=>by cases h
 | (y,j) :: r,h=>by
  rw [List.filter_cons] at h
  cases hp : p y with
  | true=>
   rw [show p (y,j).1=true from hp,if_pos rfl,List.lookup_cons] at h
   rw [List.lookup_cons]
   cases q : x == y with
   | true=>rw [q] at h; cases h; rw [beq_iff_eq.mp q]; exact ⟨rfl,hp⟩
   | false=>rw [q] at h; exact filter_lookup h
  | false=>
   rw [show p (y,j).1=false from hp,if_neg Bool.false_ne_true] at h
   refine E02 (filter_lookup h) fun h1 h2=>?_
   refine ⟨?_,h2⟩
   rw [List.lookup_cons]
   cases q : x == y with
   | true=>rw [beq_iff_eq.mp q,hp] at h2; cases h2
   | false=>exact h1
theorem lookup_app_or {α : Type} {l r : List (Str × α)} {n : Str} {v : α} (h : (l ++ r).lookup n=some v) : l.lookup n=some v∨(l.lookup n=none∧r.lookup n=some v):=by
 cases q : l.lookup n with
 | none=>rw [lookup_app q] at h; exact .inr ⟨rfl,h⟩
 | some u=>
  left
  induction l with
  | nil=>cases q
  | cons p l ih=>
   rw [List.lookup_cons] at q
   rw [List.cons_append,List.lookup_cons] at h
   cases z : n == p.1 with
   | true=>rw [z] at q h; rw [← q]; exact h
   | false=>rw [z] at q h; exact ih h q
theorem clr_get : ∀ {is : List Nat} {Γ : Loc} {j : Nat} {v : V},(clr is Γ)[j]?=some (some v)→j ∉ is∧Γ[j]?=some (some v)
 | [],_,_,_,h=>⟨by simp,h⟩
 | i :: is,Γ,j,v,h=>by
  refine E02 (clr_get (is:=is) (Γ:=Γ.set i none) h) fun h1 h2=>?_
  rw [List.getElem?_set] at h2
  split at h2
  ·split at h2 <;> cases h2
  ·rename_i hne
   refine ⟨fun hm=>?_,h2⟩
   rcases List.mem_cons.mp hm with e | hm
   ·exact hne e.symm
   ·exact h1 hm
theorem mask_get {Γ : Loc} {j : Nat} {v : V} (h : (mask Γ)[j]?=some (some v)) : Γ[j]?=some (some v)∧∃ x,v=.d x:=by
 unfold mask at h
 rw [List.getElem?_map] at h
 cases q : Γ[j]? with
 | none=>rw [q] at h; cases h
 | some o=>
  rw [q] at h
  induction o with
  | none=>cases h
  | some u=>
   induction u with
   | d x=>cases h; exact ⟨rfl,x,rfl⟩
   | _=>cases h
noncomputable def closOf (cells : List (Str × Addr)) : List (Str × NameKind)→List (Str × Addr)→List (Str × Addr)
 | [],acc=>acc
 | (n,k) :: r,acc=>if k == .free then closOf cells r ((n,(cells.lookup n).getD 0) :: acc) else closOf cells r acc
theorem clos_eq {scope : Scope} {env : Env} (h : ∀ p∈scope.names,p.2=.free→(env.cells.lookup p.1).isSome=true) : closureFor scope env=pure (closOf env.cells scope.names []):=by
 unfold closureFor
 have gen : ∀ (names : List (Str × NameKind)) (acc : List (Str × Addr)),(∀ p∈names,p.2=.free→(env.cells.lookup p.1).isSome=true) →
   (forIn names acc (fun x (r : List (Str × Addr))=>match x with
    | (name,kind)=>if (kind == NameKind.free)=true then (do let a ← cellOf env name; pure PUnit.unit; pure (ForInStep.yield ((name,a) :: r))) else (do pure PUnit.unit; pure (ForInStep.yield r))) : Sem (List (Str × Addr)))=pure (closOf env.cells names acc):=by
  intro names
  induction names with
  | nil=>intro acc _; rw [List.forIn_nil]; rfl
  | cons p r ih=>
   intro acc hp
   obtain ⟨n,k⟩:=p
   rw [List.forIn_cons]
   dsimp only
   cases q : k == NameKind.free with
   | true=>
    have h0:=hp (n,k) (.head _) (beq_iff_eq.mp q)
    refine E11 (Option.isSome_iff_exists.mp h0) fun c hc=>?_
    rw [if_pos rfl]
    have e1 : cellOf env n=pure c:=by unfold cellOf; rw [hc]
    rw [e1]
    simp only [pure_bind]
    rw [ih _ fun p hp'=>hp p (.tail _ hp')]
    have : closOf env.cells ((n,k) :: r) acc=closOf env.cells r ((n,c) :: acc):=by
     rw [closOf,q,if_pos rfl,show env.cells.lookup n=some c from hc]; rfl
    rw [this]
   | false=>
    rw [if_neg Bool.false_ne_true]
    simp only [pure_bind]
    rw [ih _ fun p hp'=>hp p (.tail _ hp')]
    have : closOf env.cells ((n,k) :: r) acc=closOf env.cells r acc:=by
     rw [closOf,q,if_neg Bool.false_ne_true]
    rw [this]
 have:=gen scope.names [] h
 simp only [pure_bind] at this ⊢
 rw [this]
 rfl
theorem clos_get {cells : List (Str × Addr)} {y : Str} {c : Addr} (hc : cells.lookup y=some c) : ∀ {names : List (Str × NameKind)} {acc : List (Str × Addr)},((y,NameKind.free)∈names∨acc.lookup y=some c)→(closOf cells names acc).lookup y=some c
 | [],acc,h=>by
  rcases h with h | h
  ·cases h
  ·exact h
 | (n,k) :: r,acc,h=>by
  unfold closOf
  cases q : k == NameKind.free with
  | true=>
   rw [if_pos rfl]
   refine clos_get hc ?_
   by_cases e : y=n
   ·subst e
    right
    rw [List.lookup_cons,beq_self_eq_true,hc]; rfl
   ·rcases h with h | h
    ·rcases List.mem_cons.mp h with h | h
     ·cases h; exact absurd rfl e
     ·exact .inl h
    ·right
     rw [List.lookup_cons]
     have : (y == n)=false:=by rw [beq_eq_false_iff_ne]; exact e
     rw [this]; exact h
  | false=>
   rw [if_neg Bool.false_ne_true]
   refine clos_get hc ?_
   rcases h with h | h
   ·rcases List.mem_cons.mp h with h | h
    ·cases h; cases q
    ·exact .inl h
   ·exact .inr h
section
variable {env : Env} {L : Addr} {scope : Scope}
theorem compOk_free {ks : Str→Option NameKind} (ok : compOk ks scope=true) {y : Str} (h : ks2 ks scope y=some .cell∨ks2 ks scope y=some .free) : (y,NameKind.free)∈scope.names∧ks y=some .cell:=by
 unfold compOk at ok
 rw [Bool.and_eq_true,List.all_eq_true] at ok
 have h2 : ∃ k,scope.names.lookup y=some k∧((if k == .free && ks y == some .cell then NameKind.cell else k)=.cell∨(if k == .free && ks y == some .cell then NameKind.cell else k)=.free):=by
  unfold ks2 at h
  rw [relK_lookup] at h
  cases q : scope.names.lookup y with
  | none=>rw [q] at h; rcases h with h | h <;> cases h
  | some k=>
   rw [q] at h
   exact ⟨k,rfl,h.imp Option.some.inj Option.some.inj⟩
 refine E12 h2 fun k hk h2=>?_
 have hm:=mem_of_lookup hk
 have h3:=ok.2 _ hm
 simp only [Bool.and_eq_true] at h3
 obtain ⟨⟨a,b⟩,c⟩:=h3
 induction k with
 | free=>
  refine ⟨hm,?_⟩
  simpa using b
 | cell=>simp at a
 | _=>simp at h2
theorem comp_env (ok : compOk env.kindOf scope=true) (he : EnvOk env L) (C : Addr) : EnvOk (compEnvC scope (closOf env.cells scope.names []) C env) C:=by
 have hk : scope.kind=.function:=by
  have:=ok
  unfold compOk at this
  rw [Bool.and_eq_true,beq_iff_eq] at this
  exact this.1
 refine ⟨hk,rfl,he.glob,he.bi,fun x hx=>?_⟩
 rw [comp_kind he.kind] at hx
 refine E02 (compOk_free ok hx) fun h1 h2=>?_
 refine E11 (Option.isSome_iff_exists.mp (he.cl x (.inl h2))) fun c hc=>?_
 show ((closOf env.cells scope.names []).lookup x).isSome=true
 rw [clos_get hc (.inl h1)]; rfl
theorem comp_clos (ok : compOk env.kindOf scope=true) (he : EnvOk env L) : closureFor scope env=pure (closOf env.cells scope.names []):=by
 refine clos_eq fun p hp hf=>he.cl _ (.inl ?_)
 unfold compOk at ok
 rw [Bool.and_eq_true,List.all_eq_true] at ok
 have h3:=ok.2 _ hp
 simp only [Bool.and_eq_true] at h3
 have:=h3.1.2
 rw [hf] at this
 simpa using this
theorem comp_fr {W : Wo} {t : PySem.Expr} {ts : List Nat} {vs : Vars} {Γ Γ' : Loc} {I : Imm} {α β : List Addr} {m m' : Str→Option Value} {C : Addr} (ok : compOk env.kindOf scope=true) (he : EnvOk env L)
  (hf : FrRel W env vs Γ I α m) (hΓ : ∀ (j : Nat) (v : V),Γ'[j]?=some (some v)→j ∉ ts∧Γ[j]?=some (some v)∧(β=α∨∃ x,v=.d x)) :
  FrRel W (compEnvC scope (closOf env.cells scope.names []) C env) (vs2 env.kindOf scope t ts vs) Γ' I β m':=by
 intro y i v hy hv
 refine E03 (hΓ i v hv) fun h1 h2 h3=>?_
 rcases lookup_app_or hy with hy | ⟨_,hy⟩
 ·exact absurd (tvars_in hy) h1
 ·refine E02 (filter_lookup (p:=fun x=>ks2 env.kindOf scope x == some .cell) hy) fun hy hk=>?_
  rw [beq_iff_eq] at hk
  refine E02 (compOk_free ok (.inl hk)) fun hm hc=>?_
  refine E12 (hf y i v hy h2) fun cv hl r=>?_
  have r' : RepV W I β cv v:=by
   rcases h3 with rfl | ⟨x,rfl⟩
   ·exact r
   ·exact .d r
  refine ⟨cv,.inr ⟨.inl ((comp_kind he.kind y).trans hk),?_⟩,r'⟩
  rcases hl with ⟨hl,_⟩ | ⟨_,c,o,e1,e2,e3⟩
  ·rw [hc] at hl; cases hl
  ·exact ⟨c,o,clos_get e1 (.inl hm),e2,e3⟩
end
theorem compLoop_gen {W : Wo} {A : Around} {s : Shared} {elt target iter : PySem.Expr} {ifs : List PySem.Expr} {scope : Scope} {pos : Pos} {it acc : Value} {env : Env} {R : Result→Shared→Prop} (I : Nat→Shared→Prop)
  (turn : ∀ n s,I n s→wpAny W.m A (pyNext it) (fun r s₁=>match r with
   | none=>R (.ok .next) s₁
   | some v=>wpAny W.m A (letOwnedTupleGo target it v) (fun _ s₁'=>wpAny W.m A (assign target env v) (fun _ s₂=>
     wpAny W.m A (forIn ifs true fun c r=>if r=true then do let ok ← isTrue c env (eval c env); pure (ForInStep.yield ok) else pure (ForInStep.yield r)) (fun ok s₃=>
      if ok=true then wpAny W.m A (eval elt env) (fun x s₄=>
       wpAny W.m A (call (.builtin "list.append") [acc,x]) (fun _ s₅=>∃ m,m < n∧I m s₅) (notedBy W.m A env fun e s'=>R (.error e) s') s₄) (notedBy W.m A env fun e s'=>R (.error e) s') s₃
      else ∃ m,m < n∧I m s₃) (notedBy W.m A env fun e s'=>R (.error e) s') s₂) (notedBy W.m A env fun e s'=>R (.error e) s') s₁') (notedBy W.m A env fun e s'=>R (.error e) s') s₁) (notedBy W.m A env fun e s'=>R (.error e) s') s)
  (n : Nat) (h : I n s) : codeAny W.m A (.compLoop (.ListComp elt [⟨target,iter,ifs,0⟩] scope pos) 0 it acc env) R s:=by
 refine codeAny_loop rfl I (fun n s hI=>?_) n h
 show wpAny _ A ((compTurn (.ListComp elt [⟨target,iter,ifs,0⟩] scope pos) 0 it acc env).onRaise (fun x=>do noteFrame x env; theTreesLotGoes x)) _ _ s
 refine wpAny_noted ?_
 rw [compTurn_list]
 refine wpAny_bind (wpAny_standAt (wpAny_bind (wpAny_mono (turn n s hI) (fun r s₁ h₁=>?_) fun _ _ h'=>h')))
 induction r with
 | none=>exact wpAny_pure h₁
 | some v=>
  refine wpAny_bind (wpAny_mono h₁ (fun _ s₁' h₁'=>?_) fun _ _ h'=>h')
  refine wpAny_bind (wpAny_mono h₁' (fun _ s₂ h₂=>wpAny_bind (wpAny_mono h₂ (fun ok s₃ h₃=>?_) fun _ _ h'=>h')) fun _ _ h'=>h')
  induction ok with
  | false=>exact wpAny_pure ⟨rfl,h₃⟩
  | true=>
   exact wpAny_bind (wpAny_bind (wpAny_mono h₃ (fun x s₄ h₄=>wpAny_bind (wpAny_mono h₄ (fun _ s₅ h₅=>wpAny_pure (wpAny_pure ⟨rfl,h₅⟩)) fun _ _ h'=>h')) fun _ _ h'=>h'))
section
variable {W : Wo} {F : Fx} {C : Cx F} {Γ : Loc} {S : Sx W C Γ}
variable (W F) in
noncomputable def SndTs (ifs : List PySem.Expr) (f : Loc→Store→Ke→Kb→Prop) : Prop:=∀ {C : Cx F} {Γ : Loc} (S : Sx W C Γ) {K},f Γ S.σ No K→∀ {Q E},OutB S Q K →
 wpAny W.m C.A (forIn ifs true fun c r=>if r=true then do let ok ← isTrue c F.env (eval c F.env); pure (ForInStep.yield ok) else pure (ForInStep.yield r)) Q E S.s
theorem ts_nil : SndTs W F [] (fun _ σ _ K=>K true σ):=fun S K h Q E hQ=>wpAny_tests_nil (hQ true S (.refl S) h)
theorem ts_one {c : PySem.Expr} {f : Loc→Store→Ke→Kb→Prop} (h1 : SndT W F c f) : SndTs W F [c] f:=fun S K h Q E hQ=>wpAny_tests_one (h1 S h hQ .no)
end
end Mine
namespace Mine
open PySem PySem.W PySem.Calls PyProof.Rows
structure CC (F : Fx) where
 A : Around
 fr : List Env
 L : Addr
 D : Addr
 Fs : Led
 hr : ∀ cvs,Room A F.n fr L ((D,.lst cvs) :: Fs)
 he : EnvOk F.env L
noncomputable abbrev CC.c {F : Fx} (c : CC F) (cvs : List Value) : Cx F:=⟨c.A,c.fr,c.L,(c.D,.lst cvs) :: c.Fs,c.hr cvs,c.he⟩
theorem Room.to {A : Around} {n : Nat} {fr : List Env} {L L2 : Addr} {Fs Fs2 : Led} (h : Room A n fr L Fs) (k : ∀ L',(L'=L∨∃ m,(L',Cell.ns m)∈Fs)→L'=L2∨∃ m,(L',Cell.ns m)∈Fs2) : Room A n fr L2 Fs2:=
 ⟨h.handled,h.depth,h.units,h.frames,fun e he=>⟨(h.kinds e he).1,E12 (h.kinds e he).2 fun L' e1 e2=>⟨L',e1,k L' e2⟩⟩⟩
noncomputable abbrev Cx.plus {F : Fx} (C : Cx F) (a : Addr) (m : Str→Option Value) : Cx F:=⟨C.A,C.fr,C.L,(a,.ns m) :: C.Fs,C.r.to fun L' h=>h.imp id fun h=>E11 h fun m' hm=>⟨m',.tail _ hm⟩,C.e⟩
section
variable {W : Wo} {F : Fx} {c : CC F} {C : Cx F} {Γ Γ' Γc Γ₁ : Loc} {G1 : Gh} {s1 : Shared} {it : Addr} {fe : Loc→Store→Ke→Kv→Prop} {ft : Loc→Store→Ke→Kb→Prop} {ts : List Nat} {xs ys : List D} {K : List D→Store→Prop} {Keep : Heap→Prop} {P : Nat→Value→Prop} {Sw : Nat→Heap→Prop} {i : Nat} {cvs : List Value} {S' : Sx W (c.c cvs) Γ'}
 {elt target iter : PySem.Expr} {ifs : List PySem.Expr} {h : Heap} {o : Obj} {E : Value→Shared→Prop}
structure CInv (G1 : Gh) (s1 : Shared) (it : Addr) (fe : Loc→Store→Ke→Kv→Prop) (ft : Loc→Store→Ke→Kb→Prop) (Γc : Loc) (ts : List Nat) (xs : List D) (K : List D→Store→Prop) (Sw : Nat→Heap→Prop) (i : Nat) (ys : List D) {cvs : List Value} {Γ' : Loc} (S' : Sx W (c.c cvs) Γ') : Prop where
 sw : Sw i S'.s.heap
 k : Gh.leX G1 S'.G
 s : Sm s1 S'.s
 r : RepDs S'.G.I cvs ys
 ito : ∃ o,S'.G.I it=some o∧isIter o
 go : wComp fe ft Γc ts (xs.drop i) ys S'.σ K
 le : i≤xs.length
 ly : ys.length≤i
variable (W) in
structure CCtx (c : CC F) (G1 : Gh) (it : Addr) (elt target : PySem.Expr) (ifs : List PySem.Expr) (fe : Loc→Store→Ke→Kv→Prop) (ft : Loc→Store→Ke→Kb→Prop) (Γc : Loc) (ts : List Nat) (xs : List D) (Keep : Heap→Prop) (P : Nat→Value→Prop) (Sw : Nat→Heap→Prop) : Prop where
 hj : Inj F.vs
 hb : bindOk F.env.kindOf F.vs target ts=true
 hE : SndE W F elt fe
 hT : SndTs W F ifs ft
 hI0 : G1.I it=none
 hbit : W.base.get? it=none
 w : Src W c.A G1.I it xs Keep P Sw
 hkeep : ∀ J h',Imm.le G1.I J→(∀ b o,J b=some o→h'.get? b=some o)→(∀ p∈c.Fs,CellAt W h' p.1 p.2)→Keep h'
 hf : ∀ m,FrRel W F.env F.vs Γc G1.I G1.α m
 hx : xs.length≤LIM
theorem CCtx.frame (cx : CCtx W c G1 it elt target ifs fe ft Γc ts xs Keep P Sw) (k : Gh.leX G1 S'.G) (sw : Sw i h) (e : h.get? it=some o) (e' : S'.G.I it=some o) : Sw i S'.s.heap:=
 cx.w.frame _ _ _ _ sw e (S'.X.inv.imm _ _ e') (cx.hkeep _ _ k.I S'.X.inv.imm fun p hp=>(S'.X.inv.mu p (.tail _ (List.mem_append_right _ (.tail _ hp)))).2)
theorem comp_elt (cx : CCtx W c G1 it elt target ifs fe ft Γc ts xs Keep P Sw) (k : Gh.leX G1 S'.G) (sm : Sm s1 S'.s) (sw : Sw i S'.s.heap) (io : S'.G.I it=some o) (hio : isIter o) (r : RepDs S'.G.I cvs ys) (ly : ys.length < i) (le : i≤xs.length)
  (go : fe Γ' S'.σ No fun v σ=>Vd v fun y=>wComp fe ft Γc ts (xs.drop i) (ys ++ [y]) σ K) {Q : Shared→Prop}
  (fin : ∀ {cvs2 : List Value} {ys2 : List D} {Γ2 : Loc} (S2 : Sx W (c.c cvs2) Γ2),CInv G1 s1 it fe ft Γc ts xs K Sw i ys2 S2→Q S2.s) :
  wpAny W.m c.A (eval elt F.env) (fun x s₄=>wpAny W.m c.A (call (.builtin "list.append") [.ref c.D,x]) (fun _ s₅=>Q s₅) E s₄) E S'.s:=
 cx.hE S' go (fun v cv S6 l6 r6 h=>Vd_el h r6 fun y rd h=>by
  have hpl : S6.s.heap.PlainList c.D cvs.toArray:=(S6.X.inv.mu (c.D,.lst cvs) (.tail _ (List.mem_append_right _ (.head _)))).2
  have ry6:=r.mono l6.g.I
  refine wpAny_list_append_plain hpl (fun h7 hpl7 sb=>?_) (by rw [List.size_toArray,ry6.length,← lim_eq]; exact Nat.le_trans (Nat.le_of_lt ly) (Nat.le_trans le cx.hx))
  have X7 : St W S6.G S6.σ c.L ((c.D,.lst (cvs ++ [cv])) :: c.Fs) h7:={ S6.X with inv:=Inv.in_ (A:=(c.L,.ns S6.G.m) :: S6.G.M) ((Inv.out (A:=(c.L,.ns S6.G.m) :: S6.G.M) S6.X.inv).set (same_but sb) (show h7.PlainList _ _ from (List.push_toArray ..) ▸ hpl7)) }
  have o6:=l6.g.I _ _ io
  have k6:=k.trans l6.x.g
  have sw6:=cx.frame (S':=S6) k6 sw (S'.X.inv.imm _ _ io) o6
  let S7 : Sx W (c.c (cvs ++ [cv])) Γ':=⟨S6.G,S6.σ,{ S6.s with heap:=h7 },X7,S6.f⟩
  exact fin S7 ⟨cx.frame (S':=S7) k6 sw6 (S6.X.inv.imm _ _ o6) o6,k6,(sm.trans l6.s).trans (show Sm S6.s S7.s from rfl),ry6.append (.cons rd .nil),⟨o,o6,hio⟩,h,le,by rw [List.length_append]; exact ly⟩) .no
theorem comp_turn (cx : CCtx W c G1 it elt target ifs fe ft Γc ts xs Keep P Sw) (v : CInv G1 s1 it fe ft Γc ts xs K Sw i ys S') {RR Q : Shared→Prop}
  (fin : ∀ {cvs2 : List Value} {ys2 : List D} {Γ2 : Loc} (S2 : Sx W (c.c cvs2) Γ2),CInv G1 s1 it fe ft Γc ts xs K Sw (i + 1) ys2 S2→Q S2.s)
  (out : ∀ {cvs2 : List Value} {zs : List D} {Γ2 : Loc} (S2 : Sx W (c.c cvs2) Γ2),Gh.leX G1 S2.G→Sm s1 S2.s→RepDs S2.G.I cvs2 zs→fitD zs=true→K zs S2.σ→RR S2.s) :
  wpAny W.m c.A (pyNext (.ref it)) (fun r s₁=>match r with
   | none=>RR s₁
   | some v=>wpAny W.m c.A (letOwnedTupleGo target (.ref it) v) (fun _ s₁'=>wpAny W.m c.A (assign target F.env v) (fun _ s₂=>
     wpAny W.m c.A (forIn ifs true fun c r=>if r=true then do let ok ← isTrue c F.env (eval c F.env); pure (ForInStep.yield ok) else pure (ForInStep.yield r)) (fun ok s₃=>
      if ok=true then wpAny W.m c.A (eval elt F.env) (fun x s₄=>
       wpAny W.m c.A (call (.builtin "list.append") [.ref c.D,x]) (fun _ s₅=>Q s₅) E s₄) E s₃
      else Q s₃) E s₂) E s₁') E s₁) E S'.s:=by
 refine E11 cx.w.W fun fp ww=>E12 v.ito fun oi hoi hoii=>?_
 have hp:=v.go
 let S0 : Sx W (c.c cvs) Γc:=⟨S'.G,S'.σ,S'.s,S'.X,FrRel.le (G:={ G1 with m:=S'.G.m }) (G':=S'.G) ⟨⟨v.k.I,v.k.α⟩,rfl⟩ (cx.hf S'.G.m)⟩
 have hoi : S0.G.I it=some oi:=hoi
 by_cases hlt : i < xs.length
 ·refine ww.item i _ _ _ hlt v.sw fun x' h₂ tk₂ hPv hSw₂ hk₂=>E12 (cx.w.iter _ _ hSw₂) fun o₂ ho₂ hio₂=>?_
  have ls : Imm.leS S'.G.I (S'.G.I.put it (h₂.get? it)):=put_leS hoi hoii
  refine E12 (cx.w.item i x' (S'.G.I.put it (h₂.get? it)) (Imm.leS.trans v.k.I.s ls) hPv hlt) fun x hx rx=>?_
  rw [List.drop_eq_getElem_cons hlt,Option.some.inj ((List.getElem?_eq_getElem hlt).symm.trans hx)] at hp
  let S3:=S0.step tk₂ hoi hoii cx.hbit hk₂
  refine op_el hp fun Γ₁ hbt hp=>letGo_any (s':=S3.s) ho₂ hio₂ (target_wp (S:=S3) cx.hj cx.hb hbt rx fun S4 l4 e4 eI eM=>?_)
  have k4 : Gh.leX G1 S4.G:=⟨by rw [eI]; exact put_le v.k.I cx.hI0,v.k.α.trans l4.g.α⟩
  have o4 : S4.G.I it=some o₂:=by rw [eI]; exact (if_pos rfl).trans ho₂
  have s4 : Sm s1 S4.s:=(v.s.trans (show Sm S'.s S3.s from rfl)).trans l4.s
  have sw4:=cx.frame (S':=S4) k4 hSw₂ ho₂ o4
  have r4 : RepDs S4.G.I cvs ys:=by rw [eI]; exact v.r.gen0 fun x _ v=>RepD.monoS ls
  refine cx.hT S4 (show ft Γ₁ S4.σ No _ by rw [e4]; exact hp) fun b S5 l5 h=>?_
  have k5:=k4.trans l5.x.g
  have o5:=l5.g.I _ _ o4
  have sw5:=cx.frame (S':=S5) k5 sw4 (S4.X.inv.imm _ _ o4) o5
  cases b with
  | false=>exact fin S5 ⟨sw5,k5,s4.trans l5.s,r4.mono l5.g.I,⟨o₂,o5,hio₂⟩,h,hlt,Nat.le_succ_of_le v.ly⟩
  | true=>exact comp_elt cx k5 (s4.trans l5.s) sw5 o5 hio₂ (r4.mono l5.g.I) (Nat.lt_succ_of_le v.ly) hlt h fin
 ·have hin : i=xs.length:=Nat.le_antisymm v.le (Nat.le_of_not_lt hlt)
  have sw:=v.sw
  rw [hin] at sw hp
  refine ww.done _ _ _ sw fun h₂ tk₂ hk₂=>?_
  rw [List.drop_length] at hp
  exact bt_el hp fun hf hp=>out (S0.step tk₂ hoi hoii cx.hbit hk₂) ⟨put_le v.k.I cx.hI0,v.k.α⟩ (v.s.trans (show Sm S'.s (S0.step tk₂ hoi hoii cx.hbit hk₂).s from rfl)) (v.r.gen0 fun x _ v=>RepD.monoS (put_leS hoi hoii)) hf hp
end
end Mine
namespace Mine
open PySem PySem.W PySem.Calls PyProof.Rows
noncomputable abbrev Fx.comp (F : Fx) (scope : Scope) (t : PySem.Expr) (ts : List Nat) (Ca : Addr) : Fx:=⟨F.n,compEnvC scope (closOf F.env.cells scope.names []) Ca F.env,vs2 F.env.kindOf scope t ts F.vs⟩
section
variable {W : Wo} {F : Fx} {C : Cx F} {Γ Γc : Loc} {S : Sx W C Γ} {G1 : Gh} {it : Addr} {fe fi : Loc→Store→Ke→Kv→Prop} {ft : Loc→Store→Ke→Kb→Prop} {ts : List Nat} {xs : List D} {K : List D→Store→Prop} {Keep : Heap→Prop} {P : Nat→Value→Prop} {Sw : Nat→Heap→Prop}
 {elt target iter : PySem.Expr} {ifs : List PySem.Expr} {o : Obj} {E : Value→Shared→Prop} {scope : Scope} {pos : Pos} {σ : Store} {s2 : Shared} {Fs0 : Led} {RR : Value→Addr→Result→Shared→Prop} {mu : Bool}
structure CompOk (W : Wo) (F : Fx) (scope : Scope) (elt target : PySem.Expr) (ifs : List PySem.Expr) (ts : List Nat) (fe : Loc→Store→Ke→Kv→Prop) (ft : Loc→Store→Ke→Kb→Prop) : Prop where
 ok : compOk F.env.kindOf scope=true
 hj : Inj (vs2 F.env.kindOf scope target ts F.vs)
 hb : bindOk (ks2 F.env.kindOf scope) (vs2 F.env.kindOf scope target ts F.vs) target ts=true
 hE : ∀ Ca,SndE W (F.comp scope target ts Ca) elt fe
 hT : ∀ Ca,SndTs W (F.comp scope target ts Ca) ifs ft
theorem CompOk.kind (co : CompOk W F scope elt target ifs ts fe ft) : scope.kind=.function:=eq_of_beq (Bool.and_eq_true_iff.mp co.ok).1
theorem CompOk.nm (co : CompOk W F scope elt target ifs ts fe ft) {p : Str × NameKind} (hp : p∈scope.names) : (p.2 != .cell)=true∧(p.2 != .local || scope.names.lookup p.1 == some .local)=true:=by
 have h3:=Bool.and_eq_true_iff.mp (List.all_eq_true.mp (Bool.and_eq_true_iff.mp co.ok).2 _ hp)
 exact ⟨(Bool.and_eq_true_iff.mp h3.1).1,h3.2⟩
theorem comp_block (co : CompOk W F scope elt target ifs ts fe ft) (X₂ : St W { G1 with I:=G1.I.add it o } σ C.L Fs0 s2.heap) (hL : ∀ L',(L'=C.L∨∃ m,(L',Cell.ns m)∈C.Fs)→L'=C.L∨∃ m,(L',Cell.ns m)∈Fs0) (hI0 : G1.I it=none) (hbit : W.base.get? it=none) (hio : isIter o) (w : Src W C.A G1.I it xs Keep P Sw) (hSw : Sw 0 s2.heap)
  (hkeep : ∀ J h',Imm.le G1.I J→(∀ b o,J b=some o→h'.get? b=some o)→(∀ p∈Fs0,CellAt W h' p.1 p.2)→Keep h')
  (hf : ∀ Ca m,FrRel W (F.comp scope target ts Ca).env (F.comp scope target ts Ca).vs Γc G1.I G1.α m) (hx : xs.length≤LIM) (go : wComp fe ft Γc ts xs [] σ K)
  (fin : ∀ Da Ca mC cvs zs (G2 : Gh) σ2 (s3 : Shared),Gh.le G1 G2→Sm s2 s3→St W G2 σ2 C.L ((Ca,.ns mC) :: Fs0) s3.heap→New G2.I (led C.L G2 ((Ca,.ns mC) :: Fs0)) Da→s3.heap.PlainList Da (List.toArray cvs)→RepDs G2.I cvs zs→K zs σ2→RR (.ref Da) Ca (.ok .next) s3) :
  wpAny W.m C.A (newList []) (fun acc s₃=>wpAny W.m C.A (newFunctionEnv scope F.env.globals (closOf F.env.cells scope.names []) [] F.env.qual none .none (some F.env)) (fun cenv s₄=>
   codeAny W.m C.A (.compStart (.ListComp elt [⟨target,iter,ifs,0⟩] scope pos) 0 (.ref it) acc { cenv with scope:=relabel scope F.env }) (RR acc cenv.locals) s₄) E s₃) E s2:=by
 refine wpAny_newObj_type (wpAny_newFunctionEnv (fun y hy e=>by have:=(co.nm hy).1; rw [e] at this; cases this) (fun y hy=>nomatch hy) (fun h₁ hns₁ hsb₁=>?_) co.kind)
 dsimp only at hns₁ hsb₁ ⊢
 generalize hH2 : s2.heap.push { cls:=.type "list",dict:=none,data:=.seq ([] : List Value).toArray }=H2 at hns₁ hsb₁ ⊢
 generalize hmC : (fun x=>List.lookup x (List.reverse ([] : List (Str × Value))))=mC0 at hns₁
 have hC : H2.objs.size=s2.heap.objs.size + 1:=by rw [← hH2,Heap.size_push]
 have hDC : s2.heap.objs.size ≠ H2.objs.size:=by rw [hC]; exact Nat.ne_of_lt (Nat.lt_succ_self _)
 have below : ∀ b o,s2.heap.get? b=some o→b ≠ H2.objs.size:=fun b o e=>by
  rw [hC]; exact Nat.ne_of_lt (Nat.lt_succ_of_lt (Heap.lt_size e))
 have old : ∀ b o,s2.heap.get? b=some o→h₁.get? b=some o:=fun b o e=>hsb₁.extBut b o (below b o e) (Heap.get?_push_of_some _ (hH2 ▸ Heap.get?_push_of_some _ e))
 have hacc : h₁.PlainList s2.heap.objs.size ([] : List Value).toArray:=⟨_,hsb₁.extBut _ _ hDC (Heap.get?_push_of_some _ (hH2 ▸ Heap.get?_push_size _ rfl))⟩
 have nC : s2.heap.get? H2.objs.size=none:=by
  cases q : s2.heap.get? H2.objs.size with
  | none=>rfl
  | some o'=>exact absurd rfl (below _ _ q)
 have fD:=X₂.inv.fresh (get_size s2.heap)
 have fC:=X₂.inv.fresh nC
 have X₃ : St W ⟨G1.I.add it o,G1.M,mC0⟩ σ H2.objs.size ((s2.heap.objs.size,.lst []) :: (C.L,.ns G1.m) :: Fs0) h₁:=by
  refine ⟨?_,X₂.ent,X₂.len,hC ▸ Nat.le_succ_of_le (Nat.le_of_lt (Nat.lt_of_le_of_lt X₂.above (X₂.size (.head _)))),X₂.base,X₂.wf⟩
  have N1:=(X₂.inv.keeps old).addM (c:=.lst []) hacc fD
  have N2:=N1.addM (c:=.ns mC0) hns₁ ⟨fC.i,fun p hp=>(List.mem_cons.mp hp).elim (fun e=>e ▸ hDC) (fC.m p)⟩
  exact N2.perm (.cons _ (List.perm_middle.trans (.cons _ List.perm_middle)))
 have h1it : h₁.get? it=some o:=X₃.inv.imm _ _ (if_pos rfl)
 have s1 : Sm s2 { s2 with heap:=h₁,toks:=s2.toks + ([] : List (Str × Value)).length }:=rfl
 let F2:=F.comp scope target ts H2.objs.size
 let c : CC F2:=⟨C.A,C.fr,H2.objs.size,s2.heap.objs.size,(C.L,.ns G1.m) :: Fs0,fun cvs=>C.r.to fun L' h=>.inr ((hL L' h).elim (fun e=>⟨G1.m,e ▸ .tail _ (.head _)⟩) fun h=>E11 h fun m hm=>⟨m,.tail _ (.tail _ hm)⟩),comp_env co.ok C.e _⟩
 have hb2 : bindOk F2.env.kindOf F2.vs target ts=true:=by
  rw [show F2.env.kindOf=ks2 F.env.kindOf scope from funext fun x=>comp_kind C.e.kind x]; exact co.hb
 have cx : CCtx W c G1 it elt target ifs fe ft Γc ts xs Keep P Sw:=⟨co.hj,hb2,co.hE _,co.hT _,hI0,hbit,w,fun J h' a b d=>hkeep J h' a b fun p hp=>d p (.tail _ hp),hf _,hx⟩
 let S3 : Sx W (c.c []) Γc:=⟨_,σ,{ s2 with heap:=h₁,toks:=s2.toks + ([] : List (Str × Value)).length },X₃,FrRel.le (G:=⟨G1.I,G1.M,mC0⟩) (G':=⟨G1.I.add it o,G1.M,mC0⟩) ⟨⟨Imm.le.add hI0,List.prefix_rfl⟩,rfl⟩ (hf _ mC0)⟩
 have k3 : Gh.leX G1 S3.G:=⟨Imm.le.add hI0,List.prefix_rfl⟩
 have o3 : S3.G.I it=some o:=if_pos rfl
 have Sw1 : Sw 0 h₁:=cx.frame (S':=S3) k3 hSw (X₂.inv.imm _ _ (if_pos rfl)) o3
 refine E11 w.W fun fp ww=>?_
 have loop:=compLoop_gen (W:=W) (A:=C.A) (s:=S3.s) (R:=RR (.ref s2.heap.objs.size) H2.objs.size) (scope:=scope) (pos:=pos) (iter:=iter) (elt:=elt) (target:=target) (ifs:=ifs) (it:=.ref it) (acc:=.ref s2.heap.objs.size) (env:=F2.env)
  (fun k s'=>∃ (i : Nat) (ys : List D) (cvs : List Value) (Γ' : Loc) (S' : Sx W (c.c cvs) Γ'),CInv G1 s2 it fe ft Γc ts xs K Sw i ys S'∧s'=S'.s∧k=xs.length + 1 - i)
  (fun k s' z=>z.elim fun i z=>z.elim fun ys z=>z.elim fun cvs z=>z.elim fun Γ' z=>z.elim fun S' z=>E03 z fun v es ek=>by
   rw [es]
   refine comp_turn cx v (fun S2 v2=>⟨xs.length + 1 - (i + 1),by have:=v2.le; lia,i + 1,_,_,_,S2,v2,rfl,rfl⟩) fun {cvs2 zs Γ2} S2 k2 sm2 r2 hf2 h2=>?_
   have N:=S2.X.inv
   have p1 : List.Perm ((s2.heap.objs.size,Cell.lst cvs2) :: ((C.L,Cell.ns G1.m) :: (S2.G.M ++ (H2.objs.size,Cell.ns S2.G.m) :: Fs0))) ((H2.objs.size,.ns S2.G.m) :: (S2.G.M ++ (s2.heap.objs.size,.lst cvs2) :: (C.L,.ns G1.m) :: Fs0)):=
    (List.Perm.cons _ ((List.Perm.cons _ List.perm_middle).trans (.swap _ _ _))).trans ((List.Perm.swap _ _ _).trans (.cons _ (List.perm_middle.trans (.cons _ List.perm_middle)).symm))
   have N1:=N.perm p1
   exact fin _ _ _ _ _ ⟨S2.G.I,S2.G.M,G1.m⟩ _ _ ⟨⟨k2.I,k2.α⟩,rfl⟩ sm2 ⟨N1.tail.1,S2.X.ent,S2.X.len,X₂.above,S2.X.base,S2.X.wf⟩ N1.tail.2 (N1.mu _ (.head _)).2 r2 h2)
  (xs.length + 1) ⟨0,[],[],Γc,S3,⟨Sw1,k3,s1,rfl,⟨o,o3,hio⟩,go,Nat.zero_le _,Nat.le_refl _⟩,rfl,rfl⟩
 exact codeAny_compStart_list loop (ww.self 0 _ _ _ Sw1 loop)
theorem own_el {Da : Addr} {cvs : List Value} {zs : List D} {K : Kv} {T : Prop} (f : New S.G.I (led C.L S.G C.Fs) Da) (q : S.s.heap.PlainList Da cvs.toArray) (r : RepDs S.G.I cvs zs) (h : Ok (mkLst mu zs S.σ) K)
  (k : ∀ v (S' : Sx W C Γ),Le S S'→S'.s=S.s→S'.rep (.ref Da) v→K v S'.σ→T) : T:=by
 unfold mkLst at h
 exact if hf : fitD zs=true then by
  rw [if_pos hf] at h
  cases mu with
  | true=>exact E02 (S.X.pushM (c:=.lst cvs) q f (e:=.lst zs) ⟨cvs,rfl,r,fitDle hf⟩ wf_lst) fun X le=>k (.l S.σ.length) ⟨_,_,S.s,X,S.f.le le⟩ ⟨le,rfl⟩ rfl (.l S.X.α_top) h
  | false=>exact E11 q fun nn ho=>E02 (S.X.freezeI ho f) fun X le=>k (.d (.lst zs)) ⟨_,_,S.s,X,S.f.le le⟩ ⟨le,rfl⟩ rfl (.d (.lst (n:=nn) (if_pos rfl) rfl rfl (r.mono le.I) (fitDle hf))) h
 else by rw [if_neg hf] at h; exact h.elim
theorem Sx.drop {a : Addr} {m : Str→Option Value} {h' : Heap} (S : Sx W (C.plus a m) Γ) (hs : But a S.s.heap h') : St W S.G S.σ C.L C.Fs h':=
 have N:=Inv.out (A:=(C.L,.ns S.G.m) :: S.G.M) S.X.inv
 {S.X with inv:=N.tail.1.but hs N.tail.2 }
theorem Sx.nsOf {a : Addr} {m : Str→Option Value} (S : Sx W (C.plus a m) Γ) : S.s.heap.Ns a m:=(S.X.inv.mu (a,.ns m) (.tail _ (List.mem_append_right _ (.head _)))).2
theorem comp_run {B : Prop→Prop} (hB : ∀ P,B P→P) (co : CompOk W F scope elt target ifs ts fe ft) {cv : Value} {v : V} {K : Kv} (rv : S.rep cv v) (h : wCompRun B mu fe ft Γ ts v S.σ K)
  (fin : ∀ Da Ca mC u (S' : Sx W (C.plus Ca mC) Γ),Gh.le S.G S'.G→Sm S.s S'.s→S'.rep (.ref Da) u→K u S'.σ→RR (.ref Da) Ca (.ok .next) S'.s) :
  wpAny W.m C.A (pyIter cv) (fun it s₂=>wpAny W.m C.A (newList []) (fun acc s₃=>wpAny W.m C.A (newFunctionEnv scope F.env.globals (closOf F.env.cells scope.names []) [] F.env.qual none .none (some F.env)) (fun cenv s₄=>
   codeAny W.m C.A (.compStart (.ListComp elt [⟨target,iter,ifs,0⟩] scope pos) 0 it acc { cenv with scope:=relabel scope F.env }) (RR acc cenv.locals) s₄) E s₃) E s₂) E S.s:=by
 have hit : ∀ {it : Addr},it=S.s.heap.objs.size→S.s.heap.get? it=none∧S.G.I it=none∧W.base.get? it=none:=fun {it} e=>by
  have hsz : S.s.heap.get? it=none:=by rw [e]; exact get_size _
  refine ⟨hsz,(S.X.inv.fresh hsz).i,?_⟩
  cases q : W.base.get? it with
  | none=>rfl
  | some o'=>have:=S.X.base_get q; rw [hsz] at this; cases this
 by_cases hv : ∃ i,v=.l i
 ·obtain ⟨i,rfl⟩:=hv
  refine ls_el h fun xs hxs h=>mut_at (T:=fun cv=>wpAny W.m C.A (pyIter cv) _ E S.s) rv hxs fun a cvs hM pl rs hl=>?_
  refine itr_lst (I:=S.G.I) C.r.handled (E11 pl fun n e=>⟨_,e,rfl,n,rfl⟩) rs fun it o P Sw e w hio hSw hget=>E03 (hit e) fun hsz hI0 hbit=>?_
  have X0 : St W ⟨S.G.I,[],S.G.m⟩ [] C.L (S.G.M ++ C.Fs) S.s.heap:=⟨S.X.inv,fun i e q=>(nomatch q),rfl,S.X.above,S.X.base,fun i r a q=>nomatch q⟩
  refine E02 (X0.addI (h':=S.s.heap.push o) (o:=o) hsz (fun b o' hb e=>Heap.get?_push_of_some _ e) hget) fun X₂ k₂=>?_
  refine comp_block (C:=C) (iter:=iter) (pos:=pos) (RR:=RR) (E:=E) co (G1:=⟨S.G.I,[],S.G.m⟩) (s2:={ S.s with heap:=S.s.heap.push o }) X₂ (fun _ h=>h.imp id fun h=>E11 h fun m hm=>⟨m,List.mem_append_right _ hm⟩) hI0 hbit hio w hSw (fun J h' _ _ hp=>E11 (hp _ (List.mem_append_left _ (List.mem_of_getElem? hM)) : CellAt W h' a (.lst cvs)) fun n e=>⟨_,e,rfl,n,rfl⟩)
   (fun Ca m=>comp_fr co.ok C.e S.f fun j v q=>E02 (mask_get q) fun q1 q2=>⟨(clr_get q1).1,(clr_get q1).2,.inr q2⟩) hl (hB _ h) fun Da Ca mC cvs zs G2 σ2 s3 k2 sm2 X4 f4 q4 r4 h4=>?_
  cases σ2 with
  | cons=>exact h4.elim
  | nil=>
   have eM : G2.M=[]:=List.length_eq_zero_iff.mp X4.len
   have p : List.Perm ((C.L,Cell.ns S.G.m) :: (S.G.M ++ (Ca,.ns mC) :: C.Fs)) (led C.L G2 ((Ca,.ns mC) :: (S.G.M ++ C.Fs))):=by
    show List.Perm _ ((C.L,Cell.ns G2.m) :: (G2.M ++ _))
    rw [eM,k2.m]
    exact .cons _ List.perm_middle
   have X5 : St W ⟨G2.I,S.G.M,S.G.m⟩ S.σ C.L ((Ca,.ns mC) :: C.Fs) s3.heap:=⟨X4.inv.perm p,fun i e q=>E12 (S.X.ent i e q) fun p hp r=>⟨p,hp,r.mono (fun b o e _=>k2.I b o e) List.prefix_rfl⟩,S.X.len,X4.above,X4.base,S.X.wf⟩
   have le5 : Gh.le S.G ⟨G2.I,S.G.M,S.G.m⟩:=⟨⟨k2.I,List.prefix_rfl⟩,rfl⟩
   exact own_el (S:=(⟨_,S.σ,s3,X5,S.f.le le5⟩ : Sx W (C.plus Ca mC) Γ)) ⟨f4.i,fun q hq=>f4.m q (p.subset hq)⟩ q4 r4 h4 fun u S' l es ru h=>(show S'.s=s3 from es) ▸ fin Da Ca mC u S' (le5.trans l.g) ((Sm.trans (show Sm S.s { S.s with heap:=S.s.heap.push o } from rfl) sm2).trans l.s) ru h
 ·have h : Op (itemsV S.σ v) (fun xs=>B (wComp fe ft (clr ts Γ) ts xs [] S.σ fun ys σ=>Ok (mkLst mu ys σ) K)):=by
   cases v with
   | l i=>exact absurd ⟨i,rfl⟩ hv
   | _=>exact h
  exact op_el h fun xs hxs h=>itr_of rv hxs fun Keep itr hkeep hx=>itr fun it o P Sw e w hio hSw hget=>E03 (hit e) fun hsz hI0 hbit=>
   E02 (S.X.addI (h':=S.s.heap.push o) (o:=o) hsz (fun b o' hb e=>Heap.get?_push_of_some _ e) hget) fun X₂ k₂=>
   comp_block (C:=C) (iter:=iter) (pos:=pos) (RR:=RR) (E:=E) co (G1:=S.G) (s2:={ S.s with heap:=S.s.heap.push o }) X₂ (fun _ h=>h) hI0 hbit hio w hSw (fun J h' a b _=>hkeep J h' a b) (fun Ca m=>comp_fr co.ok C.e S.f fun j v q=>⟨(clr_get q).1,(clr_get q).2,.inl rfl⟩) hx (hB _ h) fun Da Ca mC cvs zs G2 σ2 s3 k2 sm2 X4 f4 q4 r4 h4=>
   own_el (S:=(⟨G2,σ2,s3,X4,S.f.le k2⟩ : Sx W (C.plus Ca mC) Γ)) f4 q4 r4 h4 fun u S' l es ru h=>(show S'.s=s3 from es) ▸ fin Da Ca mC u S' (k2.trans l.g) ((Sm.trans (show Sm S.s { S.s with heap:=S.s.heap.push o } from rfl) sm2).trans l.s) ru h
theorem snd_comp {B : Prop→Prop} (hB : ∀ P,B P→P) (co : CompOk W F scope elt target ifs ts fe ft) (hns : ∀ v,foldedSetIterable iter F.env v=pure v) (h1 : SndE W F iter fi) :
  SndE W F (.ListComp elt [⟨target,iter,ifs,0⟩] scope pos) (fun Γ σ _ K=>fi Γ σ No fun x σ=>wCompRun B mu fe ft Γ ts x σ K):=fun {C Γ} S KE K h Q E hQ hE=>by
 rw [eval_ListComp]
 refine wpAny_comprehension_free (use:=none) rfl hns (comp_clos co.ok C.e) co.kind (fun x hx hl=>?_) (h1 S h (fun v cv S1 l1 r1 h=>comp_run (RR:=fun acc C'=>compPost W.m C.A E none Q acc C') hB co r1 h fun Da Ca mC u S' g s r h=>?_) .no)
 ·have h3:=(co.nm hx).2
  rw [hl] at h3
  exact eq_of_beq h3
 ·exact ⟨mC,S'.nsOf,fun h'' hs=>hQ u (.ref Da) ⟨S'.G,S'.σ,{ S'.s with heap:=h'' },S'.drop (same_but hs),S'.f⟩ ⟨l1.g.trans g,(l1.s.trans s).trans (show Sm S'.s { S'.s with heap:=h'' } from rfl)⟩ r h⟩
noncomputable def asgCompOk (scope : Scope) (y : Str) (py pos : Pos) : Bool:=py.line == pos.line && !(scope.names.any fun p=>p.1 == y && (p.2 == .local || p.2 == .cell))
theorem s_asgComp {B : Prop→Prop} (hB : ∀ P,B P→P) {y : Str} {i : Nat} {py spos : Pos} (hj : Inj F.vs) (nm : Nm F y i) (hsw : asgCompOk scope y py pos=true) (co : CompOk W F scope elt target ifs ts fe ft) (hns : ∀ v,foldedSetIterable iter F.env v=pure v) (h1 : SndE W F iter fi) :
  SndS W F (.Assign [.Name y py] (.ListComp elt [⟨target,iter,ifs,0⟩] scope pos) spos) (fun N j Γ σ=>fi Γ σ No fun x σ=>wCompRun B mu fe ft Γ ts x σ fun v σ=>N (setL Γ i v) σ):=fun {C Γ} fs S N J h Q E hQ hE=>by
 have hsw' : swapsWith (.ListComp elt [⟨target,iter,ifs,0⟩] scope pos) (some (.Name y py)) spos.line F.env=pure true:=by
  have hsw:=Bool.and_eq_true_iff.mp hsw
  show (pure (F.env.blockKind == .function && F.env.kindOf y == some .local && py.line == pos.line && !(scope.names.any fun (n,k)=>n == y && (k == .local || k == .cell))) : Sem Bool)=_
  rw [C.blockFn,nm.k,hsw.1,show (!(scope.names.any fun (n,k)=>n == y && (k == .local || k == .cell)))=true from hsw.2]
  rfl
 rw [exec_Assign_Name_used _ _ _ _ hsw']
 refine wpAny_bind (wpAny_standAt (wpAny_bind ?_))
 show wpAny _ C.A (do let _ ← comprehension (.ListComp elt [⟨target,iter,ifs,0⟩] scope pos) scope F.env _ (newList []) false (eval iter F.env) (some (assign (.Name y py) F.env))) _ _ _
 refine wpAny_bind (wpAny_mono (wpAny_comprehension_free (use:=some (assign (.Name y py) F.env)) (Q:=fun _ s'=>Q .next s') rfl hns (comp_clos co.ok C.e) co.kind (fun x hx hl=>?_)
  (h1 S h (fun v cv S1 l1 r1 h=>comp_run (RR:=fun acc C'=>compPost W.m C.A E (some (assign (.Name y py) F.env)) (fun _ s'=>Q .next s') acc C') hB co r1 h fun Da Ca mC u S' g s r h=>?_) .no)) (fun _ s' hq=>wpAny_pure (wpAny_pure hq)) fun _ _ e=>e)
 ·have h3:=(co.nm hx).2
  rw [hl] at h3
  exact eq_of_beq h3
 ·show wpAny _ C.A (assign (.Name y py) F.env (.ref Da)) _ _ _
  refine wpAny_assign_Name (store_wp (C:=C.plus Ca mC) (S:=S') hj nm r fun S2 l2 e2 _ _=>⟨mC,S2.nsOf,fun h'' hs=>?_⟩)
  exact hQ.n (⟨S2.G,S2.σ,{ S2.s with heap:=h'' },S2.drop (same_but hs),S2.f⟩ : Sx W C (setL Γ i u)) ⟨(l1.x.g.trans g.toleX).trans l2.g,((l1.s.trans s).trans l2.s).trans (show Sm S2.s { S2.s with heap:=h'' } from rfl)⟩ (e2 ▸ h)
end
end Mine
namespace Mine
open PySem PySem.W PySem.Calls PyProof.Rows
noncomputable def okSet (K : Frag) (C : Addr) (name : Str) : Bool:=(findIn K (.ref C) "__setattr__" == some (some (.builtin "object.__setattr__")) && plainOver K C) && (takerIn K C name == some none && hasDictIn K C)
section
variable {W : Wo} {F : Fx} {C : Cx F} {Γ : Loc} {S : Sx W C Γ} {E : Value→Shared→Prop}
theorem setw_wp {A : Around} {s : Shared} {L : Addr} {m : Str→Option Value} {Ca x dx : Addr} {od od' : Obj} {name : Str} {v : Value} {es : List DictEntry} {k : Nat} {Q : Unit→Shared→Prop} (ok : okSet W.K Ca name=true) (Fr' : Fr W.base L s.heap m) (I : InstAt s.heap x (instObj Ca dx) Ca (some od))
  (hb : W.base.get? dx=none) (hdL : dx ≠ L) (hl : (lookIn name od).isSome=true) (e : Obj.putName name (PyData.keyHash W.w.params name) (.str name (s.toks + 1)) v od=od') (e' : od'.data=.dict es.toArray k) (hz : es.length≤1000)
  (h : ∀ h',Fr W.base L h' m→h'.get? dx=some od'→(∀ b o,b ≠ dx→b ≠ L→s.heap.get? b=some o→h'.get? b=some o)→Q () { s with heap:=h',toks:=s.toks + 2 }) :
  wpAny W.m A (setAttr (.ref x) name v) Q E s:=by
 have X : W.K.In s.heap:=W.kin.keeps Fr'.keep
 have N : News W.base L s.heap ([] ++ (dx,od) :: (allNews W.base s.heap L).filter fun p=>p.1 != dx):=fun p hp=>(List.mem_cons.mp hp).elim (fun q=>q ▸ ⟨I.dict,hdL,hb⟩) fun hp=>allNews_of (List.mem_filter.mp hp).1
 refine set_plain X I (eq_of_beq (a1 (a1 ok))) (osa_dict (s:={ s with toks:=s.toks + 1 }) (pre:=[]) Fr' N X I rfl (a2 (a1 ok)) (eq_of_beq (a1 (a2 ok))) (a2 (a2 ok)) hl (fun _ hp=>nomatch hp) (fun p hp=>by simpa using (List.mem_filter.mp hp).2) e e' hz fun h' F' N'=>?_)
 refine h h' F' (N' (dx,od') (.head _)).1 fun b o hbd hbL hbo=>?_
 cases q : W.base.get? b with
 | some o'=>
  have:=Fr'.keep b o' q
  rw [hbo] at this; cases this
  exact F'.keep b o q
 | none=>exact (N' (b,o) (.tail _ (List.mem_filter.mpr ⟨allNews_mem hbo hbL q,bne_iff_ne.mpr hbd⟩))).1
theorem put_at {P : Params} {ra : Addr} {a : Int} {od : Obj} (h : WdObj P ra a od) (hsh : Int) (key : Value) (b : Int) (t : Tok) : ∃ od' es k,Obj.putName "at" hsh key (.int b t) od=od'∧od'.data=.dict (List.toArray es) k∧es.length≤1000∧WdObj P ra b od':=h.el fun t1 t2 t3 k sl q=>by
 subst q
 exact ⟨_,[⟨PyData.keyHash P "rows",.str "rows" t1,.ref ra⟩,⟨PyData.keyHash P "at",.str "at" t2,.int b t⟩],k,rfl,rfl,Nat.le_add_left _ _,t1,t2,t,k,sl,rfl⟩
theorem s_augA {o : PySem.Expr} {b : Int} {kk : Nat} {p1 tpos pos : Pos} {f : Loc→Store→Ke→Kv→Prop} (ok : okW W.K=true) (ok2 : okSet W.K (wordsC W.K) "at"=true) (h1 : SndE W F o f) :
  SndS W F (.AugAssign (.Attribute o "at" tpos) .Add (.Constant (.int b) kk p1) pos) (fun N j Γ σ=>f Γ σ j.E fun x σ=>Vw x fun i=>Wd σ i fun r a=>N Γ (σ.set i (.wd r (a + b)))):=fun {C Γ} fs S N J h Q E hQ hE=>
 wpAny_AugAssign_AttributeAny (h1 S h (fun v cv S1 l1 r1 h=>Vw_el h r1 fun j r1 h=>wd_el h fun r a hj h=>by
  refine word_at (T:=fun c=>c=cv→wpAny W.m C.A (getAttr cv "at" true) _ E S1.s) r1 hj (fun x dx ra od hM hrr I wd ec=>E11 (look_at wd) fun t hat=>?_) rfl
  subst ec
  refine get_value S1.kin I (plainGet_of (a1 (a1 ok))).1 (findObj_own (a2 (a1 ok)) (eq_of_beq (a2 (a1 (a2 ok)))) rfl hat) rfl ?_
  refine wpAny_Constant_int (PyProof.Rows.iadd_int ?_)
  have N:=S1.X.outM hM
  refine E34 (put_at wd (PyData.keyHash W.w.params "at") (.str "at" (S1.s.toks + 1 + 1 + 1 + 1)) (a + b) (S1.s.toks + 1 + 1)) fun od' es kk' e1 e2 e3 wd'=>?_
  refine setw_wp (s:={ S1.s with toks:=S1.s.toks + 1 + 1 + 1 }) ok2 S1.X.fr I ?_ (fun e=>N.tail.2.m _ (.head _) e.symm) (by rw [hat]; rfl) e1 e2 e3 fun h' F' hdx keep=>?_
  ·cases q : W.base.get? dx with
   | none=>rfl
   | some o=>have:=S1.X.base _ _ q; rw [N.tail.2.i] at this; cases this
  have X:=S1.X.setEnt0 (c':=.wd ra (a + b)) (e':=.wd r (a + b)) hM (N.set2 keep ⟨od',hdx,wd'⟩ F'.ns) ⟨ra,rfl,hrr⟩ fun r' a' e=>by cases e; exact S1.X.wf j r a hj
  have le : Gh.le S1.G { S1.G with M:=S1.G.M.set j (dx,.wd ra (a + b)) }:=⟨⟨.refl _,by show S1.G.α <+: (S1.G.M.set j (dx,.wd ra (a + b))).map (·.1); rw [map_set hM]; exact List.prefix_rfl⟩,rfl⟩
  exact hQ.n (S1.to _ _ h' (S1.s.toks + 1 + 1 + 1 + 2) le X) (l1.trans (S1.to_le le X)).x h) hE.toE)
end
noncomputable def fdOk (K : Frag) (fd : FuncData) (ps : List Str) : Bool:=((codeIn K fd.code fd.qualname && fd.closure.isEmpty) && (fd.globals == mainGlobals && fd.builtins == builtinsNs)) && ((fd.scope.kind == .function && (!fd.scope.isCoroutine && !fd.scope.isGenerator)) &&
 ((plainParams fd.params && fd.params.args.map (·.arg) == ps) && (decide ps.Nodup && ps.all fun x=>fd.scope.names.lookup x == some .local)))
structure FdOk (K : Frag) (fd : FuncData) (ps : List Str) : Prop where
 code : codeIn K fd.code fd.qualname=true
 clo : fd.closure=[]
 glob : fd.globals=mainGlobals
 bi : fd.builtins=builtinsNs
 kind : fd.scope.kind=.function
 co : fd.scope.isCoroutine=false
 gen : fd.scope.isGenerator=false
 pl : plainParams fd.params=true
 par : fd.params.args.map (·.arg)=ps
 nd : ps.Nodup
 pk : ∀ x∈ps,fd.scope.names.lookup x=some .local
theorem fdOk_of {K : Frag} {fd : FuncData} {ps : List Str} (h : fdOk K fd ps=true) : FdOk K fd ps:=
 ⟨a1 (a1 (a1 h)),List.isEmpty_iff.mp (a2 (a1 (a1 h))),eq_of_beq (a1 (a2 (a1 h))),eq_of_beq (a2 (a2 (a1 h))),eq_of_beq (a1 (a1 (a2 h))),nt (a1 (a2 (a1 (a2 h)))),nt (a2 (a2 (a1 (a2 h)))),a1 (a1 (a2 (a2 h))),eq_of_beq (a2 (a1 (a2 (a2 h)))),of_decide_eq_true (a1 (a2 (a2 (a2 h)))),fun x hx=>eq_of_beq (List.all_eq_true.mp (a2 (a2 (a2 (a2 h)))) x hx)⟩
noncomputable def initFn (K : Frag) (C : Addr) : Addr:=vAdr (findIn K (.ref C) "__init__")
noncomputable def dfl (K : Frag) (n : Nat) (v : Value) : Bool:=v == .none || vRef (fun T=>oSq (fun _ items=>decide (items.size≤n)) (K.lookup T)) v
noncomputable def Dfl (W : Wo) (n : Nat) (v : Value) : Prop:=∀ s : Shared,(∀ b o,W.base.get? b=some o→s.heap.get? b=some o)→∃ dv,DefOf s v dv∧dv.length≤n
theorem dfl_of {W : Wo} {n : Nat} {v : Value} (h : dfl W.K n v=true) : Dfl W n v:=fun s hk=>by
 cases q : v == .none with
 | true=>exact ⟨[],fun M A E Q hQ=>by rw [eq_of_beq q]; exact wpAny_pure (hQ none rfl),Nat.zero_le _⟩
 | false=>
  rw [dfl,q] at h
  exact vRef_el (T:=fun v=>∃ dv,DefOf s v dv∧dv.length≤n) h fun a h=>oSq_el h fun ob items k e1 e2 h=>⟨items.toList,fun M A E Q hQ=>wpAny_seqItems (hk _ _ (W.kin _ _ e1)) e2 (hQ _ rfl),of_decide_eq_true h⟩
noncomputable def okInit (K : Frag) (C : Addr) (ps : List Str) (f : FuncData→List Stmt→Bool) : Bool:=(findIn K (.ref C) "__init__" == some (some (.ref (initFn K C))) && isFn K (.ref (initFn K C))) &&
 o1 (fun o=>dFn (fun fd=>(fdOk K fd ps && dfl K ps.length fd.defaults) && bSt (f fd) fd.body) o.data) (K.lookup (initFn K C))
section
variable {W : Wo} {A : Around} {s : Shared} {E : Value→Shared→Prop}
theorem init_el {K : Frag} {Ca : Addr} {ps : List Str} {f : FuncData→List Stmt→Bool} {T : Prop} (h : okInit K Ca ps f=true) (k : ∀ o fd body,K.lookup (initFn K Ca)=some o→o.data=.func fd→FdOk K fd ps→dfl K ps.length fd.defaults=true→fd.body=.stmts body→f fd body=true→T) : T:=by
 have h2:=a2 h
 cases q : K.lookup (initFn K Ca) with
 | none=>rw [q] at h2; cases h2
 | some o=>
  rw [q] at h2
  have h3 : dFn (fun fd=>(fdOk K fd ps && dfl K ps.length fd.defaults) && bSt (f fd) fd.body) o.data=true:=h2
  exact (dFn_el (P:=fun d=>∃ fd,d=.func fd∧((fdOk K fd ps && dfl K ps.length fd.defaults) && bSt (f fd) fd.body)=true) h3 fun a h=>⟨a,rfl,h⟩).elim fun fd h=>E12 (bSt_inv (a2 h.2)) fun body hb hf=>k o fd body q h.1 (fdOk_of (a1 (a1 h.2))) (a2 (a1 h.2)) hb hf
structure IEnv (fd : FuncData) (ps : List Str) (args : List Value) (env : Env) (h₁ h₂ : Heap) (m : Str→Option Value) : Prop where
 sk : env.scope.kind=.function
 L : env.locals=h₁.objs.size
 g : env.globals=mainGlobals
 b : env.builtins=builtinsNs
 k : ∀ y,env.kindOf y=fd.scope.names.lookup y
 ns : h₂.Ns h₁.objs.size m
 kp : ∀ b o,h₁.get? b=some o→h₂.get? b=some o
 val : ∀ {i : Nat} {x : Str} {v : Value},ps[i]?=some x→args[i]?=some v→m x=some v
theorem init_enter {fd : FuncData} {body : List Stmt} {ps : List Str} {args : List Value} {f : Addr} {o : Obj} {R : Result→Shared→Prop} (fo : FdOk W.K fd ps) (hdf : dfl W.K ps.length fd.defaults=true) (hk : ∀ b o,W.base.get? b=some o→s.heap.get? b=some o) (ho : W.K.lookup f=some o) (hod : o.data=.func fd) (hbody : fd.body=.stmts body) (hdep : A.depth < recursionLimit) (hlen : args.length=ps.length)
  (k : ∀ env h₂ tk₂ m,IEnv fd ps args env s.heap h₂ m→wpAny W.m (A.deeper env) (execs body env) (fun f s'=>R (.ok (.ret (match f with | .ret v=>v | _=>.none))) s')
   (fun e s'=>wpAny W.m (A.deeper env) (leaving env e) (fun _ s''=>R (.error e) s'') (fun e' s''=>R (.error e') s'') s') { s with heap:=h₂,toks:=tk₂ }) : codeAny W.m A (.call (.ref f) ⟨args,[]⟩) R s:=by
 have hl : fd.params.args.length=ps.length:=by rw [← List.length_map (as:=fd.params.args) (f:=(·.arg)),fo.par]
 refine E12 (dfl_of hdf s hk) fun dv hD hdl=>?_
 have hb : BindsTo s fd ⟨args,[]⟩ ((fd.params.args.map (·.arg)).zip args):=binds_of fo.pl (by rw [fo.par]; exact fo.nd) hD (.inl ⟨hl.symm ▸ hdl,hlen.trans hl.symm,rfl⟩)
 refine codeAny_call_function (fd:=fd) hdep (hk _ _ (W.kin _ _ ho)) hod fo.co fo.gen hbody (codeRec_of (W.kin.keeps hk) fo.code) (hb _ _ _ _ ?_)
 rw [fo.clo,fo.par]
 refine wpAny_newFunctionEnv_cells fo.kind (fun y hy=>.inl (fo.pk _ (List.of_mem_zip hy).1)) fun env henv s' xx=>?_
 have e1 : env.scope=fd.scope:=congrArg Env.scope henv
 have e2 : env.locals=s.heap.objs.size:=congrArg Env.locals henv
 have ek : ∀ y,env.kindOf y=fd.scope.names.lookup y:=fun y=>congrArg (fun s=>s.names.lookup y) e1
 rw [e2] at xx
 refine E21 xx.toInCall.same fun h₂ tk₂ q=>?_
 rw [q] at xx ⊢
 exact ⟨W.nolimit.keeps fun b o e=>xx.toInCall.keep b o (hk b o e),codeAny_func (k env h₂ tk₂ _ ⟨e1 ▸ fo.kind,e2,(congrArg Env.globals henv).trans fo.glob,(congrArg Env.builtins henv).trans fo.bi,ek,xx.toInCall.ns,xx.toInCall.keep,fun hx hv=>by
  rw [bindL_eq]; exact bindG_get fo.nd hx hv (beq_iff_eq.mpr ((ek _).trans (fo.pk _ (List.mem_of_getElem? hx))))⟩)⟩
end
end Mine
namespace Mine
open PySem PySem.W PySem.Calls PyProof.Rows
noncomputable def iwB (fd : FuncData) : List Stmt→Bool:=l2 fun s1 s2=>(fd.scope.names.lookup ("list" : Str) == some .globalImplicit && setSt "self" "rows" (eCall fun g es kw _=>kw.isEmpty && (isNm "list" g && l1 (isNm "rows") es)) s1) && setSt "self" "at" (eConst (cI 0)) s2
theorem iwB_el {fd : FuncData} {P : List Stmt→Prop} {l : List Stmt} (h : iwB fd l=true) (k : ∀ p1 p2 p3 p4 p5 p6 p7 p8 kk p9 p10,fd.scope.names.lookup ("list" : Str)=some .globalImplicit→P [.Assign [.Attribute (.Name "self" p1) "rows" p2] (.Call (.Name "list" p3) [.Name "rows" p4] [] p5) p6,.Assign [.Attribute (.Name "self" p7) "at" p8] (.Constant (.int 0) kk p9) p10]) : P l:=by
 refine hdL_el h fun s1 r h=>?_
 refine l1_el h fun s2 h=>?_
 refine setSt_el (a2 (a1 h)) fun p1 p2 e p6 h1=>?_
 refine eCall_el h1 fun g es kw p5 h1=>?_
 refine nil_el (a1 h1) ?_
 refine isNm_el (a1 (a2 h1)) fun p3=>?_
 refine l1_el (a2 (a2 h1)) fun x h1=>?_
 refine isNm_el h1 fun p4=>?_
 refine setSt_el (a2 h) fun p7 p8 e p10 h1=>?_
 refine eConst_el h1 fun c kk p9 h1=>?_
 refine cI_el h1 ?_
 exact k _ _ _ _ _ _ _ _ _ _ _ (eq_of_beq (a1 (a1 h)))
noncomputable def okInitW (K : Frag) : Bool:=(makesIn K (wordsC K) && okInit K (wordsC K) ["self","rows"] iwB) && (okSet K (wordsC K) "rows" && okSet K (wordsC K) "at")
theorem init_put1 {P : Params} {v : Value} (hsh : Int) (key : Value) : Obj.putName "rows" hsh key v (dictOf [] 0)=dictOf [⟨hsh,key,v⟩] 1:=by
 rw [putName_dict]; rfl
theorem init_put2 (h1 h2 : Int) (t1 : Tok) (k2 v1 v2 : Value) : Obj.putName "at" h2 k2 v2 (dictOf [⟨h1,.str "rows" t1,v1⟩] 1)=dictOf [⟨h1,.str "rows" t1,v1⟩,⟨h2,k2,v2⟩] 2:=by
 rw [putName_dict]; rfl
theorem typeCall_weight (C : Addr) (r : List Value) : (Code.builtin "type.__call__" ⟨.ref C :: r,[]⟩).weight≤4:=by
 have e : (Code.builtin "type.__call__" ⟨.ref C :: r,[]⟩).weight=1:=by kernel_rfl
 rw [e]; decide
section
variable {W : Wo} {F : Fx} {C : Cx F} {Γ : Loc} {S : Sx W C Γ} {E : Value→Shared→Prop} {I : Imm} {G : Gh} {L da a : Addr} {Fs : Led} {c : Cell}
theorem New.addM (f : New I (led L G Fs) a) (n : da ≠ a) : New I (led L (G.addM da c) Fs) a:=⟨f.i,fun p hp=>by
 have hp : p∈(L,Cell.ns G.m) :: ((G.M ++ [(da,c)]) ++ Fs):=hp
 rcases List.mem_cons.mp hp with e | hp
 ·exact e ▸ f.m (L,.ns G.m) (.head _)
 ·rcases List.mem_append.mp hp with hp | hp
  ·rcases List.mem_append.mp hp with hp | hp
   ·exact f.m p (.tail _ (List.mem_append_left _ hp))
   ·exact List.mem_singleton.mp hp ▸ n
  ·exact f.m p (.tail _ (List.mem_append_right _ hp))⟩
section
variable {fd : FuncData} {ps : List Str} {args : List Value} {env : Env} {h₁ h₂ : Heap} {m : Str→Option Value} {A : Around} {s : Shared} {x : Str} {v : Value} {i : Nat} {pos : Pos} {Q : Value→Shared→Prop}
theorem IEnv.bi (ie : IEnv fd ps args env h₁ h₂ m) (hk : ∀ b o,W.base.get? b=some o→s.heap.get? b=some o) (hx : fd.scope.names.lookup x=some .globalImplicit) (ok : okB1 W.K x v=true) (h : Q v s) : wpAny W.m A (eval (.Name x pos) env) Q E s:=
 oV_el (a2 (a1 ok)) fun u hu q=>Name_function_global ie.sk ((ie.k x).trans hx) (loadGlobal_builtin (ie.g.symm ▸ W.g.keeps hk) (mg_none_of W.kin W.g (nsN_el (a1 (a1 ok)))) (ie.b.symm ▸ W.b.keeps hk) ((W.boot x fun z=>by
  have:=nt (a2 (a2 ok))
  rw [z] at this; cases this).trans ((eq_of_beq q) ▸ hu)) h) (nt (a1 (a2 ok)))
theorem IEnv.nm (ie : IEnv fd ps args env h₁ h₂ m) (fo : FdOk W.K fd ps) (hn : s.heap.Ns h₁.objs.size m) (hx : ps[i]?=some x) (hv : args[i]?=some v) (hd : (x == ("__debug__" : Str))=false) (h : Q v s) : wpAny W.m A (eval (.Name x pos) env) Q E s:=
 wpAny_Name (wpAny_loadName_local ie.sk ((ie.k x).trans (fo.pk x (List.mem_of_getElem? hx))) (ie.L.symm ▸ hn) (ie.val hx hv) h) hd
end
theorem mkW_wp {Q : Value→Shared→Prop} {cv : Value} {v : V} {xs : List D} (ok : okInitW W.K=true) (okb : okBs W.K=true) (rv : S.rep cv v) (hd : resD S.σ v=some (.lst xs)) (h : PostE S Q (.ok (.w (S.σ.length + 1)) (S.σ ++ [.lst xs,.wd S.σ.length 0]))) : wpAny W.m C.A (call (.ref (wordsC W.K)) [cv]) Q E S.s:=by
 have k1:=a2 (a1 ok)
 refine init_el k1 fun oc fd body hlook hod fo hdf hbody hf=>?_
 revert hbody
 refine iwB_el (P:=fun body=>fd.body=.stmts body→_) hf fun p1 p2 p3 p4 p5 p6 p7 p8 kk p9 p10 hli hbody=>?_
 refine call_cls S.X.fr W.kin S.X.news (a1 (a1 ok)) (eq_of_beq (a1 (a1 k1))) (a2 (a1 k1)) fun x dx h₁ F₁ N₁ hlt hdx=>?_
 have X1 : St W S.G S.σ C.L C.Fs h₁:=S.X.back F₁ N₁ fun p hp=>.tail _ (.tail _ hp)
 let S1:=S.to S.G S.σ h₁ S.s.toks (.refl _) X1
 have gx:=N₁ (x,instObj (wordsC W.K) dx) (.head _)
 have gd:=N₁ (dx,dictOf [] 0) (.tail _ (.head _))
 have nod : ∀ d,dx≤d→W.base.get? d=none→d ≠ C.L→S.s.heap.get? d=none:=fun d hd hb hL=>by
  cases q : S.s.heap.get? d with
  | none=>rfl
  | some o=>exact absurd (Nat.lt_of_lt_of_le (hlt (d,o) (allNews_mem q hL hb)) hd) (Nat.lt_irrefl _)
 have fd_:=S.X.inv.fresh (nod dx (Nat.le_refl _) gd.2.2 gd.2.1)
 have fx:=S.X.inv.fresh (nod x (Nat.le_of_lt hdx) gx.2.2 gx.2.1)
 have hdep : (C.A.under (.builtin "type.__call__" ⟨.ref (wordsC W.K) :: [cv],[]⟩)).depth < recursionLimit:=by
  have:=C.r.depth
  have e1:=typeCall_weight (wordsC W.K) [cv]
  show C.A.depth + _ < _
  lia
 refine init_enter (s:=S1.s) fo hdf (fun b o e=>X1.base_get e) hlook hod hbody hdep rfl fun env h₂ tk₂ m₂ ie=>?_
 have kp2:=ie.kp
 have hL2 : ∀ b o,h₁.get? b=some o→b ≠ h₁.objs.size:=fun b o e q=>by rw [q,get_size] at e; cases e
 refine wpAny_execs_cons (plainObj_wpAny_Assign_Attribute ?_)
 refine Call_Name rfl (ie.bi (W:=W) (v:=.type "list") (fun b o e=>kp2 b o (X1.base_get e)) hli (a1 (okBs_p okb .list)) ?_)
 refine callWith_type1 (wpAny_items_cons (ie.nm fo (i:=1) ie.ns rfl rfl (by decide) ?_) rfl) rfl rfl
 refine wpAny_items_nil ?_
 have key : ∀ {T : Prop},(∀ la cvs,cv=.ref la→h₁.IsList la (List.toArray cvs)→RepDs S.G.I cvs xs→xs.length≤LIM→T)→T:=fun {T} k=>(res_seq (S:=S1) rv hd rfl).lst_el (T:=fun c=>c=cv→T) (fun a cvs hl rs l e=>k a cvs e.symm hl rs l) rfl
 refine key fun la cvs ec hl1 rs hlen=>?_
 subst ec
 refine E13 hl1 fun ol l1 l2 l3=>E11 l3 fun nl l3=>?_
 refine call_list_seq la (.inl rfl) (kp2 _ _ l1) l2 l3 (fun h₃ c' kp3 eD=>?_) (by rw [List.size_toArray,rs.length,← lim_eq]; exact hlen)
 have base1 : W.base.objs.size≤h₁.objs.size:=Nat.le_of_lt (Nat.lt_of_le_of_lt X1.above (X1.size (.head _)))
 have F3 : Fr W.base h₁.objs.size h₃ m₂:=⟨ie.ns.keeps kp3,fun b o e=>kp3 b o (kp2 b o (X1.base_get e)),base1⟩
 have dL : dx ≠ h₁.objs.size:=hL2 _ _ gd.1
 have xL : x ≠ h₁.objs.size:=hL2 _ _ gx.1
 have xd : x ≠ dx:=fun e=>by rw [e] at hdx; exact Nat.lt_irrefl _ hdx
 refine ie.nm fo (i:=0) (ie.ns.keeps kp3) rfl rfl (by decide) ?_
 refine setw_wp (a1 (a2 ok)) F3 ⟨kp3 _ _ (kp2 _ _ gx.1),rfl,rfl,kp3 _ _ (kp2 _ _ gd.1)⟩ gd.2.2 dL rfl (init_put1 (P:=W.w.params) _ _) rfl (show 1≤1000 from by decide) fun h₄ F4 hd4 kp4=>?_
 refine wpAny_execs_cons (plainObj_wpAny_Assign_Attribute (wpAny_Constant_int ?_))
 refine ie.nm fo (i:=0) F4.ns rfl rfl (by decide) ?_
 refine setw_wp (a2 (a2 ok)) F4 ⟨kp4 _ _ xd xL (kp3 _ _ (kp2 _ _ gx.1)),rfl,rfl,hd4⟩ gd.2.2 dL rfl (init_put2 _ _ _ _ _ _) rfl (Nat.le_add_left _ _) fun h₅ F5 hd5 kp5=>?_
 refine wpAny_execs_nil ⟨rfl,?_⟩
 have kp15 : But dx h₁ h₅:=fun b o hb e=>kp5 b o hb (hL2 b o e) (kp4 b o hb (hL2 b o e) (kp3 b o (kp2 b o e)))
 have X5 : St W S.G S.σ C.L C.Fs h₅:={ X1 with inv:=X1.inv.but kp15 fd_ }
 have hn : ∀ {b o},h₁.get? b=some o→h₂.objs.size ≠ b:=fun {b o} e q=>by
  have:=kp2 _ _ e
  rw [← q,get_size] at this; cases this
 have fD : New S.G.I (led C.L S.G C.Fs) h₂.objs.size:=X1.inv.fresh (by
  cases q : h₁.get? h₂.objs.size with
  | none=>rfl
  | some o=>exact absurd rfl (hn q))
 have DL : h₂.objs.size ≠ h₁.objs.size:=fun q=>by
  refine E33 ie.ns fun o es ep ho _ _=>?_
  rw [← q,get_size] at ho; cases ho
 have eD5:=kp5 _ _ (hn gd.1) DL (kp4 _ _ (hn gd.1) DL eD)
 refine E02 (X5.pushM (a:=h₂.objs.size) (c:=.lst cvs) (e:=.lst xs) ⟨_,eD5⟩ fD ⟨cvs,rfl,rs,hlen⟩ wf_lst) fun E1 le1=>?_
 refine E02 (E1.pushM (a:=dx) (c:=.wd h₂.objs.size 0) (e:=.wd S.σ.length 0) ⟨_,hd5,_,_,_,2,#[],rfl⟩ (fd_.addM (hn gd.1)) ⟨_,rfl,prefix_get (List.prefix_append _ _) X5.α_top⟩ fun r b q=>by cases q; rw [List.length_append]; exact Nat.lt_succ_self _) fun E2 le2=>?_
 refine E02 (E2.freezeI (kp15 x _ xd gx.1) ((fx.addM (hn gx.1)).addM (Ne.symm xd))) fun E3 le3=>?_
 refine h (.ref x) ⟨_,_,_,E3,S.f.le ((le1.trans le2).trans le3)⟩ ⟨(le1.trans le2).trans le3,?_⟩ ?_ ⟨dx,?_,x,_,rfl,if_pos rfl,rfl⟩
 ·exact rfl
 ·exact List.append_assoc S.σ [Ent.lst xs] [Ent.wd S.σ.length 0]
 ·have:=E1.α_top (a:=dx) (c:=.wd h₂.objs.size 0)
  rw [List.length_append] at this
  exact this
end
end Mine
namespace Mine
open PySem PySem.W PySem.Calls PyProof.Rows PySem.Spec PyProof.V
noncomputable def cStr (l : List Nat) : Const→Bool
 | .str x=>x.cps.toList == l
 | _=>false
theorem cStr_el {l : List Nat} {P : Const→Prop} {c : Const} (h : cStr l c=true) (k : P (.str ⟨l.toArray⟩)) : P c:=by
 unfold cStr at h
 split at h
 ·rename_i x
  rw [show x=⟨l.toArray⟩ from by rw [← eq_of_beq h]]; exact k
 ·cases h
noncomputable def dctOk : List (List Nat × Int)→List (Option PySem.Expr)→List PySem.Expr→Bool
 | [],ks,vs=>ks.isEmpty && vs.isEmpty
 | p :: r,ks,vs=>hdL (fun k ks=>hdL (fun v vs=>(o1 (eConst (cStr p.1)) k && eConst (cI p.2) v) && dctOk r ks vs) vs) ks
noncomputable def dataOf (kvs : List (List Nat × Int)) : List (PyData × PyData):=kvs.map fun p=>(PyData.str ⟨p.1.toArray⟩,PyData.int p.2)
noncomputable abbrev DctP (kvs : List (List Nat × Int)) (ks : List (Option PySem.Expr)) (vs : List PySem.Expr) : Prop:=litPairs ks vs=some (dataOf kvs)∧ks.all (·.isSome)=true∧ks.length=vs.length∧ks.length=kvs.length
theorem dct_pairs {ks : List (Option PySem.Expr)} {vs : List PySem.Expr} {kvs : List (List Nat × Int)} (h : dctOk kvs ks vs=true) : DctP kvs ks vs:=by
 induction kvs generalizing ks vs with
 | nil=>exact nil_el (P:=fun ks=>DctP [] ks vs) (a1 h) (nil_el (P:=fun vs=>DctP [] [] vs) (a2 h) ⟨rfl,rfl,rfl,rfl⟩)
 | cons p r ih=>
  refine hdL_el (P:=fun ks=>DctP (p :: r) ks vs) h fun k ks h=>?_
  refine hdL_el (P:=fun vs=>DctP (p :: r) (k :: ks) vs) h fun v vs h=>?_
  refine o1_el (P:=fun k=>DctP (p :: r) (k :: ks) (v :: vs)) (a1 (a1 h)) fun k h1=>?_
  refine eConst_el (P:=fun k=>DctP (p :: r) (some k :: ks) (v :: vs)) h1 fun c k1 p1 h1=>?_
  refine cStr_el (P:=fun c=>DctP (p :: r) (some (.Constant c k1 p1) :: ks) (v :: vs)) h1 ?_
  refine eConst_el (P:=fun v=>DctP (p :: r) (some (.Constant (.str ⟨p.1.toArray⟩) k1 p1) :: ks) (v :: vs)) (a2 (a1 h)) fun c k2 p2 h2=>?_
  refine cI_el (P:=fun c=>DctP (p :: r) (some (.Constant (.str ⟨p.1.toArray⟩) k1 p1) :: ks) (.Constant c k2 p2 :: vs)) h2 ?_
  refine E04 (ih (a2 h)) fun a b c d=>⟨?_,b,congrArg (· + 1) c,congrArg (· + 1) d⟩
  rw [litPairs,a]; rfl
theorem strKeyed_of (kvs : List (List Nat × Int)) : strKeyed (dataOf kvs)=true∧strKeysOf (dataOf kvs)=kvs.map fun p=>(⟨p.1.toArray⟩ : Str):=by
 induction kvs with
 | nil=>exact ⟨rfl,rfl⟩
 | cons p r ih=>exact ⟨ih.1,congrArg (List.cons _) ih.2⟩
theorem flat_cons {k : Str} {v : Value} {r : List (Str × Value)} {p : List Nat × Int} {kvs : List (List Nat × Int)} {a : List (Str × Value)} {b : List (PyData × PyData)} (h : FlatPairs PyData.str a b) (e1 : a=(k,v) :: r) (e2 : b=dataOf (p :: kvs)) : k=(⟨p.1.toArray⟩ : Str)∧FlatPairs PyData.str r (dataOf kvs):=by
 induction h with
 | nil=>cases e1
 | cons f g=>
  cases e1
  have e2' : _ :: _=(PyData.str ⟨p.1.toArray⟩,PyData.int p.2) :: dataOf kvs:=e2
  injection e2' with e3 e4
  injection e3 with e5 e6
  injection e5 with e7
  exact ⟨e7,e4 ▸ g⟩
theorem flat_keys {kvs' : List (Str × Value)} {kvs : List (List Nat × Int)} (h : FlatPairs PyData.str kvs' (dataOf kvs)) (x : List Nat) : (valueAt kvs' (⟨x.toArray⟩ : Str)).isSome=kvs.any fun p=>p.1 == x:=by
 induction kvs' generalizing kvs with
 | nil=>cases kvs with
  | nil=>rfl
  | cons=>cases h
 | cons q r ih=>cases kvs with
  | nil=>cases h
  | cons p kvs=>
   obtain ⟨k,v⟩:=q
   refine E02 (flat_cons h rfl rfl) fun e h2=>?_
   have:=ih h2
   unfold valueAt at this ⊢
   rw [List.find?_cons,List.any_cons,← this]
   subst e
   cases q : p.1 == x with
   | true=>
    rw [eq_of_beq q,show decide ((⟨x.toArray⟩ : Str)=(⟨x.toArray⟩ : Str))=true from decide_eq_true rfl]; rfl
   | false=>
    rw [show decide ((⟨p.1.toArray⟩ : Str)=(⟨x.toArray⟩ : Str))=false from decide_eq_false fun e=>by
     injection e with e
     have e : p.1=x:=congrArg Array.toList e
     rw [e,beq_self_eq_true] at q; cases q]; rfl
noncomputable def okExcM (K : Frag) : Bool:=ns2 (nsIn K mainGlobals "GrammarFault") (· == .ref (gfC K)) && exmOne K (.ref (gfC K)) (.ref (gfC K)) == some true
section
variable {W : Wo} {F : Fx} {C : Cx F} {Γ : Loc} {S : Sx W C Γ} {pos np p : Pos} {e : PySem.Expr} {f : Loc→Store→Ke→Kv→Prop} {x : Str} {i : Nat}
theorem snd_dct {ks : List (Option PySem.Expr)} {es : List PySem.Expr} {kvs : List (List Nat × Int)} (ok : dctOk kvs ks es=true) (hn : decide (kvs.map fun p=>(⟨p.1.toArray⟩ : Str)).Nodup=true) (hl : decide (kvs ≠ []∧kvs.length≤15)=true) :
  SndE W F (.Dict ks es pos) (fun _ σ _ K=>K (.dct kvs) σ):=fun {C Γ} S KE K h Q E hQ hE=>
 E04 (dct_pairs ok) fun a1 a2 a3 a4=>E02 (strKeyed_of kvs) fun b1 b2=>by
  have hl:=of_decide_eq_true hl
  refine Dict_lits_str a1 b1 (by rw [b2]; exact of_decide_eq_true hn) a2 a3 (fun e=>by rw [e] at a4; exact hl.1 (List.length_eq_zero_iff.mp a4.symm)) (by rw [a4]; exact hl.2) fun a o h₁ tk ha ho tab keep=>?_
  refine E12 tab fun kvs' hd hfp=>?_
  have hna : S.s.heap.get? a=none:=by
   cases q : S.s.heap.get? a with
   | none=>rfl
   | some o'=>exact absurd (Heap.lt_size q) (Nat.not_lt.mpr ha)
  have hcls : o.cls=.type "dict":=E22 hd fun _ _ hx _=>hx.1
  refine (hQ.at h).newI hna (fun b o' _ e=>keep b o' e) ho fun k e=>⟨a,o,rfl,e,hcls,fun h' e=>⟨_,(Heap.dictOf_iff.mpr ⟨o,e,hd⟩).mapOf,flat_keys hfp⟩,?_⟩
  exact beq_eq_false_iff_ne.mpr (Nat.ne_of_gt (Nat.lt_of_lt_of_le (modules_low W.nolimit) (Nat.le_trans S.X.above (Nat.le_trans (Nat.le_of_lt (S.X.size (.head _))) ha))))
theorem dl_el {d : D} {K : List D→Prop} {T : D→Prop} (h : Dl d K) (k : ∀ xs,K xs→T (.lst xs)) : T d:=by
 cases d with
 | lst xs=>exact k xs h
 | _=>exact h.elim
theorem snd_mkW (okI : okInitW W.K=true) (okb : okBs W.K=true) (wn : ns2 (nsIn W.K mainGlobals "Words") (· == .ref (wordsC W.K))=true) (wk : keepIn W.K (.ref (wordsC W.K))=true) (hx : F.env.kindOf "Words"=some .globalImplicit) (hs : Plain1 F.env e) (h1 : SndE W F e f) :
  SndE W F (.Call (.Name "Words" np) [e] [] pos) (fun Γ σ E K=>f Γ σ E fun x σ=>Op (resD σ x) fun d=>Dl d fun xs=>K (.w (σ.length + 1)) (σ ++ [.lst xs,.wd σ.length 0])):=fun {C Γ} S KE K h Q E hQ hE=>
 ns2_el wn fun v hv q=>Call_Name rfl (wp_global hx (by decide +kernel) (eq_of_beq q ▸ hv) (callF_wp wk (plain1 hs) (wpAny_items_cons (h1 S h (fun v cv S1 l1 r1 h=>wpAny_items_nil ⟨S1.kin,op_el h fun d hd h=>dl_el (T:=fun d=>resD S1.σ v=some d→wpAny W.m C.A (call (.ref (wordsC W.K)) ([] ++ [cv])) Q E S1.s) h (fun xs h hd=>mkW_wp okI okb r1 hd ((hQ.up l1).at h)) hd⟩) hE) (hs _))))
theorem s_try {c : Const} {d : D} {cp rp hp tpos : Pos} {kk : Nat} (okE : okExcM W.K=true) (hg : F.env.kindOf "GrammarFault"=some .globalImplicit) (hc : constOk c d=true) (hj : Inj F.vs) (nm : Nm F x i) (hs : NoSw F e) (h1 : SndE W F e f) :
  SndS W F (.Try [.Assign [.Name x p] e pos] [.ExceptHandler (some (.Name "GrammarFault" np)) none [.Return (some (.Constant c kk cp)) rp] hp] [] [] tpos) (fun N j Γ σ=>f Γ σ (fun σ=>j.Z false (.d d) σ) fun v σ=>N (setL Γ i v) σ):=fun {C Γ} fs S N J h Q E hQ hE=>
 wpAny_Try_except (wpAny_execs_cons (wpAny_Assign_Name (h1 S h (fun v cv S1 l1 r1 h=>store_wp hj nm r1 fun S2 l2 e2 _ _=>wpAny_execs_nil (wpAny_execs_nil (hQ.n S2 (l1.x.trans l2) (e2 ▸ h)))) fun S1 y l1 fl h=>
  note_wp fs fl fun S2 T l2 e2 t=>flight_wp (v:=none) t fun S3 l3 e3 t3=>ns2_el (a1 okE) fun v hv q=>by
   refine wpAny_handleBy_cons (codeAny_handlers_test (wp_global (S:=S3) hg (by decide +kernel) (eq_of_beq q ▸ hv) ?_)) (by intro q; cases q)
   refine E35 t3.r fun ox vs a0 hx hcl hd h0 h1=>?_
   refine (exm_one (M:=W.m) (h:=S3.s.heap) S3.kin (cls:=.ref (gfC W.K)) (hcl ▸ (Looks.ld hx).andThen .now) (eq_of_beq (a2 okE))).here ?_
   rw [if_pos rfl]
   refine codeAny_handlers_suite (flight_wp (v:=none) t3 fun S4 l4 e4 t4=>?_)
   refine wpAny_execs_cons (wpAny_Return_some (const_wp (S:=S4) hc fun cv S5 l5 e5 r5=>hQ.z S5 false cv (.d d) ((((l1.trans l2).trans l3).trans l4).trans l5).x r5 (by rw [e5,e4,e3,e2]; exact h)))) (hs _ _)))
end
end Mine
namespace Mine
open PySem PySem.W PySem.Calls PyProof.Rows
noncomputable abbrev excObj (C ta : Addr) : Obj:={ cls:=.ref C,data:=.fields #[.ref ta,.none,.none,.none,.bool false,.none] }
section
variable {prog : Program} {w : World} {A : Around} {E : Value→Shared→Prop} {s : Shared} {K : Frag}
noncomputable def okExI (K : Frag) : Bool:=match findCls K (.type "Exception") (.type "type") "__init__" with
 | some (.val v)=>v == .builtin "Exception.__init__" && handedIn v
 | _=>false
theorem exI_wp {Q : Value × List Value→Shared→Prop} {pl : Sem Bool} (X : K.In s.heap) (ok : okExI K=true) (h : ∀ tk,Q (.builtin "Exception.__init__",[]) { s with toks:=tk }) : wpAny (model prog w) A (getMethod (.type "Exception") "__init__" pl) Q E s:=by
 unfold okExI at ok
 split at ok
 ·rename_i v e
  rw [Bool.and_eq_true,beq_iff_eq] at ok
  refine E02 ok fun q_0 hh=>?_; subst q_0
  unfold getMethod
  refine wpAny_bind ?_
  have e1 : specialOf (.type "Exception") "__getattribute__"=pure (some (.builtin "type.__getattribute__")):=by kernel_rfl
  rw [e1]
  refine wpAny_pure ?_
  dsimp only
  rw [if_pos (by decide +kernel)]
  refine wpAny_bind ?_
  have hstub : opaqueClassAbove (.type "Exception")=pure none:=by unfold opaqueClassAbove; dsimp only; rw [show Manifest.isStub "Exception"=false from by decide +kernel]; rfl
  have L0 : Looks (model prog w) s.heap (typeOf (.type "Exception")) (.type "type"):=Looks.of_pure (kitMeta_of (by decide +kernel))
  refine cls_open X (Looks.of_pure hstub) L0 type_tga (looks_hook X (r:=none) (by rfl)) (by show subIn K _ _=_; rfl) e (wpAny_pure ?_)
  show wpAny _ _ (handedOut _) _ _ _
  rw [handedOut_of hh]
  exact wpAny_pure (wpAny_pure (h _))
 ·cases ok
end
section
variable {prog : Program} {w : World} {A : Around} {E : Value→Shared→Prop} {K : Frag} {h : Heap} {g : Array GenState} {d : Drawn} {t : Nat} {os : OsState}
theorem exInit_wp {C e ta : Addr} {rest : List Value} {Q : Value→Shared→Prop} (X : K.In h) (hsub : subIn K (.ref C) (.type "Exception")=some true) {c0 : Value} {dd : Option Addr} {cd : ClassData} {sl : Array (Option Value)} (hC : h.get? C=some ⟨c0,dd,.cls cd,sl⟩) (he : h.get? e=some (excObj C ta)) (hz : rest.length≤sizeLine)
  (hq : ∀ h' ta',(∀ b o,b ≠ e→h.get? b=some o→h'.get? b=some o)→h'.get? e=some (excObj C ta')→h.get? ta'=none→Q .none ⟨h',g,d,t,os⟩) : wpAny (model prog w) A (call (.builtin "Exception.__init__") (.ref e :: rest)) Q E ⟨h,g,d,t,os⟩:=by
 have F:=PySem.F.excBase_Exception
 have L1 : Looks (model prog w) h (typeOf (.ref e)) (.ref C):=(Looks.ld he).andThen .now
 have L2:=looks_subIn (M:=model prog w) X hsub
 have L3 : Looks (model prog w) h (isInstance (.ref e) (.type "Exception")) true:=L1.andThen L2
 have hshort:=F.noStar
 refine wpAny_call (codeAny_call_builtin F.init.plain F.initEntry ?_ )
 simp only [checkBuiltinCall,F.initKind,F.initSplit,F.initRow]
 refine wpAny_bind (L3.here ?_)
 rw [if_neg (by decide)]
 unfold Bind.checkArgs
 repeat (first | with_reducible refine wpAny_loadPart_at hC ?_ | with_reducible refine wpAny_load hC ?_ | wp_step)
 refine wpAny_onRaise ?_
 rw [show ∀ (a b : String) (n : Nat),Bind.check ⟨.positional,"*","Exception",.self,[⟨"args",.varPos,false⟩]⟩ a b n (List.map (fun x=>x.fst) ({ pos:=Value.ref e :: rest } : Args).kw)=pure () from
  fun a b n=>check_star_args _ _ _ _ _ _]
 refine wpAny_pure ?_
 wp_walk
 refine hq _ h.objs.size (fun b o hb e'=>?_) ?_ (get_size h)
 ·rw [Heap.get?_update_other _ _ (Ne.symm hb)]
  exact Heap.get?_push_of_some _ e'
 ·rw [Heap.get?_update_self _ (Heap.get?_push_of_some _ he) rfl]
  rfl
end
section
variable {prog : Program} {w : World} {A : Around} {E : Value→Shared→Prop} {K : Frag} {h : Heap} {g : Array GenState} {d : Drawn} {t : Nat} {os : OsState}
variable {nm q : Str} {C N : Addr} {bs bm : List Value} {hdct : Bool} {sn : List Str} {sub : List Value} {ab : Bool} {col : Option Bool} {dd : Option Addr} {k0 k1 k2 k3 k5 : Option Value}
noncomputable abbrev gfObj (nm q : Str) (C N : Addr) (bs bm : List Value) (hdct : Bool) (sn : List Str) (sub : List Value) (ab : Bool) (col : Option Bool) (dd : Option Addr) (k0 k1 k2 k3 k5 : Option Value) : Obj:=excClassObj nm q C N bs bm hdct sn sub ab col dd k0 k1 k2 k3 k5 "Exception.__new__"
theorem gf_new {R : Result→Shared→Prop} {rest : List Value} (hC : h.get? C=some (gfObj nm q C N bs bm hdct sn sub ab col dd k0 k1 k2 k3 k5)) (hcB : (Value.ref C :: bm).contains (.type "Exception")=true) (hcA : (Value.ref C :: bm).contains (.type "AttributeError")=false)
  (hcN : (Value.ref C :: bm).contains (.type "NameError")=false) (hrest : rest.length≤sizeLine)
  (hq : R (.ok (.ret (.ref (h.objs.size + 1)))) ⟨(h.push { cls:=.type "tuple",data:=.seq rest.toArray }).push (excObj C h.objs.size),g,d,t,os⟩) :
  codeAny (model prog w) A (.builtin "Exception.__new__" ⟨.ref C :: rest,[]⟩) R ⟨h,g,d,t,os⟩:=by
 have Fn:=PySem.F.excBase_Exception
 have hends:=Fn.ends
 refine codeAny_builtinAt Fn.entry ?_
 unfold Builtin.«BaseException.__new__»
 refine PySem.wpAt_bind ?_
 show PySem.wpAt _ _ _ (stack >>= _) _ _ _
 refine PySem.wpAt_bind (PySem.wpAt_stack fun p below=>PySem.wpAt_of_wpAny ?_)
 wp_walk
 refine PySem.wpAt_of_wpAny ?_
 rw [Fn.owner]
 repeat (first | with_reducible refine wpAny_madeHere_exc Fn.canon hC ?_ | with_reducible refine wpAny_loadPart_at hC ?_ | (with_reducible refine wpAny_isSubtype_exc hC ?_; first | rw [hcB] | rw [hcA] | rw [hcN]) | wp_step)
 show R _ _
 rw [Heap.size_push]
 exact hq
theorem gf_call {fI : Addr} {rest : List Value} {Q : Value→Shared→Prop} (X : K.In h) (hC : h.get? C=some (gfObj nm q C N bs bm hdct sn sub ab col dd k0 k1 k2 k3 k5)) (hbB : bm.contains (.type "Exception")=true) (hcA : (Value.ref C :: bm).contains (.type "AttributeError")=false)
  (hcN : (Value.ref C :: bm).contains (.type "NameError")=false) (hrest : rest.length≤sizeLine) (hf : findIn K (.ref C) "__init__"=some (some (.ref fI))) (hfn : isFn K (.ref fI)=true)
  (hq : wpAny (model prog w) (A.under (.builtin "type.__call__" ⟨.ref C :: rest,[]⟩)) (call (.ref fI) (.ref (h.objs.size + 1) :: rest)) (fun r s'=>r=.none∧Q (.ref (h.objs.size + 1)) s') E ⟨(h.push { cls:=.type "tuple",data:=.seq rest.toArray }).push (excObj C h.objs.size),g,d,t,os⟩) :
  wpAny (model prog w) A (call (.ref C) rest) Q E ⟨h,g,d,t,os⟩:=by
 have Fn:=PySem.F.excBase_Exception
 have f1:=tc_lookup
 have f2:=tc_bind (.ref C)
 have hT : (⟨h,g,d,t,os⟩ : Shared).TypeIs (.ref C) "type":=⟨_,hC,rfl⟩
 have hcB : (Value.ref C :: bm).contains (.type "Exception")=true:=by rw [List.contains_cons,hbB,Bool.or_true]
 refine wpAny_call (codeAny_of_tree ?_)
 show wpAny _ _ (callAny (.ref C) _) _ _ _
 repeat (any_goals (first | assumption | with_reducible refine wpAny_loadPart_at hC ?_ | wp_step))
 refine ⟨rfl,?_⟩
 refine codeAny_call_builtin_at (Code.quiet_builtin _ (by decide +kernel)) entry_typeCall (wpAny_check_type_call_sub hC ?_)
 repeat (first | with_reducible refine wpAny_loadPart_at hC ?_ | with_reducible refine wpAny_madeBy_exc hC ?_ | wp_step)
 refine codeAny_call_builtin_code (Code.quiet_builtin _ Fn.quiet) (wpAny_check_new_subU Fn hbB OwnTail.base hC ?_)
 refine gf_new hC hcB hcA hcN hrest ?_
 show wpAny _ _ _ _ _ _
 have kp : ∀ b o,h.get? b=some o→((h.push { cls:=.type "tuple",data:=.seq rest.toArray }).push (excObj C h.objs.size)).get? b=some o:=fun b o e=>Heap.get?_push_of_some _ (Heap.get?_push_of_some _ e)
 have X₁:=X.keeps kp
 have hget : ((h.push { cls:=.type "tuple",data:=.seq rest.toArray }).push { cls:=.ref C,data:=.fields #[.ref h.objs.size,.none,.none,.none,.bool false,.none] }).get? (h.objs.size + 1)=some { cls:=.ref C,data:=.fields #[.ref h.objs.size,.none,.none,.none,.bool false,.none] }:=by heap_get
 have hC₁:=kp _ _ hC
 have hcC : (Value.ref C :: bm).contains (.ref C)=true:=by simp
 unfold isInstance
 repeat (first | with_reducible refine wpAny_loadPart_at hget ?_ | wp_step)
 refine wpAny_isSubtype_exc hC₁ ?_
 rw [hcC]
 repeat (first | with_reducible refine wpAny_loadPart_at hget ?_ | wp_step)
 show wpAny _ _ (typeLookup (.ref C) _) _ _ _
 refine (looks_findIn X₁ hf).here ?_
 refine wpAny_holding (wpAny_bind ((bind_fn X₁ _ (beq_iff_eq.mp hfn)).here ?_))
 refine wpAny_bind (wpAny_mono hq (fun r s' hr=>?_) fun _ _ x=>x)
 refine E02 hr fun q_0 hQ=>?_; subst q_0
 wp_walk
 exact hQ
end
section
variable {prog : Program} {w : World} {A : Around} {E : Value→Shared→Prop} {K : Frag} {s : Shared} {R : Result→Shared→Prop}
structure ExcSet (K : Frag) (C : Addr) (cd : ClassData) (name : Str) : Prop where
 cls : clsIn K C=some cd
 dict : cd.hasDict=true
 obj : cd.mro.contains (.type "object")=true
 ref : ∀ self,refuseLoop self "__setattr__" cd.mro=pure ()
 set : findIn K (.ref C) "__setattr__"=some (some (.builtin "object.__setattr__"))
 own : findIn K (.ref C) name=some none
theorem osa_exc {C x : Addr} {cd : ClassData} {ox : Obj} {od : Option Obj} {name : Str} {tk : Tok} {v : Value} (X : K.In s.heap) (I : W.InstAt s.heap x ox C od) (S : ExcSet K C cd name)
  (h : wpAny (model prog w) A.in1 (Builtin.ObjectAttr.storeInOwnDict (.ref x) (.ref C) (.str name tk) name v false)
   (fun fin s'=>match fin with | .done f=>R (.ok f) s' | .again c'=>c'.quiet=true∧codeAny (model prog w) A c' R s') (fun e s'=>R (.error e) s') s) :
  codeAny (model prog w) A (.call (.builtin "object.__setattr__") ⟨[.ref x,.str name tk,v],[]⟩) R s:=by
 have SF:=PySem.F.store_object
 have hc:=S.cls
 have ne : cd.mro.isEmpty=false:=by
  have:=S.obj
  cases q : cd.mro with
  | nil=>rw [q] at this; cases this
  | cons _ _=>rfl
 have sub : Looks (model prog w) s.heap (isInstance (.ref x) (.type "object")) true:=I.type.andThen (looks_mroIn X (by unfold mroIn; rw [hc,Option.bind_some,if_neg (by rw [ne]; decide),S.obj]))
 refine codeAny_call_builtin SF.slot.plain SF.entry (@check_slot (model prog w) _ _ s "object.__setattr__" "object" "__setattr__" (.ref x) [.str name tk,v] [] _ SF.kind SF.split sub (SF.args (.ref x) (.str name tk) v) ?_)
 have hm : Looks (model prog w) s.heap (mroOf (.ref C)) cd.mro:=(looks_clsIn X hc).andThen .now
 have L3 : Looks (model prog w) s.heap (Builtin.ObjectAttr.storeTaker? none) none:=.now
 simp only [osa_eq,refuse_eq]
 refine wpAny_bind (wpAny_bind (I.type.here (wpAny_bind (hm.here ?_))))
 simp only [S.ref]
 refine wpAny_pure (wpAny_bind (I.type.here (wpAny_bind ((looks_findIn X S.own).here (wpAny_bind (L3.here ?_))))))
 exact h
theorem storeD {dx : Addr} {es : List DictEntry} {n : Nat} {name : Str} {tk : Tok} {v : Value} {Q : Fin→Shared→Prop} (D : s.heap.get? dx=some (dictOf es n)) (hes : es.any (·.refKey)=false) (hz : es.length≤900)
  (h : ∀ h' es' n',h'.get? dx=some (dictOf es' n')→es'.any (·.refKey)=false→es'.length≤es.length + 1→(∀ b o,b ≠ dx→s.heap.get? b=some o→h'.get? b=some o)→Q (.done (.ret .none)) { s with heap:=h',toks:=s.toks + 1 }) :
  wpAny (model prog w) A (Builtin.ObjectAttr.storeInDict dx (.str name tk) name v) Q E s:=by
 unfold Builtin.ObjectAttr.storeInDict
 refine wpAny_bind (wpAny_pure (wpAny_bind ?_))
 unfold nsSet
 refine wpAny_bind (wpAny_bind (wpAny_askSetting (wpAny_pure (wpAny_bind (wpAny_mkText (wpAny_bind (wpAny_loadPart D ?_)))))))
 dsimp only
 have c : (!es.toArray.any (·.key.isStr name) && es.toArray.any (·.refKey))=false:=by
  have : es.toArray.any (·.refKey)=false:=by rw [← Array.any_toList]; exact hes
  simp only [this,Bool.and_false]
 simp only [aRefKeyMayBeTheName_at,c]
 refine wpAny_updatePart D ?_
 generalize (if name.cps.isEmpty=true then (0 : Int) else reduceHash ((model prog w).w.params.strHash name.cps))=hsh
 have e0:=putName_dict name hsh (.str name s.toks) v es n
 have gen : ∀ es : List DictEntry,es.any (·.refKey)=false→(putL name hsh (.str name s.toks) v es).any (·.refKey)=false∧(putL name hsh (.str name s.toks) v es).length≤es.length + 1:=by
  intro es
  induction es with
  | nil=>intro _; exact ⟨rfl,Nat.le_refl _⟩
  | cons e r ih=>
   intro he
   simp only [List.any_cons,Bool.or_eq_false_iff] at he
   unfold putL
   split
   ·refine ⟨?_,by simp⟩
    simp only [List.any_cons,he.2,Bool.or_false]
    exact he.1
   ·refine E02 (ih he.2) fun a b=>?_
    exact ⟨by rw [List.any_cons,a,he.1]; rfl,by simpa using b⟩
 refine E02 (gen es hes) fun g1 g2=>?_
 have D' : (s.heap.update dx (Obj.putName name hsh (.str name s.toks) v)).get? dx=some (dictOf (putL name hsh (.str name s.toks) v es) (putN name es n)):=by
  rw [Heap.get?_update_self _ D (by rw [e0]; rfl),e0]
 refine wpAny_bind (wpAny_lookBehind (s:={ s with heap:=s.heap.update dx (Obj.putName name hsh (.str name s.toks) v),toks:=s.toks + 1 }) D' (pastItsLine_dict (by rw [List.size_toArray,sizeLine_eq]; lia)) ?_)
 exact wpAny_pure (h _ _ _ D' g1 g2 fun b o hb e=>(Heap.get?_update_other _ _ (Ne.symm hb)).trans e)
theorem exc_set1 {C x : Addr} {cd : ClassData} {ox : Obj} {vs : Array Value} {name : Str} {v : Value} {Q : Unit→Shared→Prop} (X : K.In s.heap) (S : ExcSet K C cd name) (hx : s.heap.get? x=some ox) (hcl : ox.cls=.ref C) (hd : ox.dict=none) (hda : ox.data=.fields vs)
  (h : ∀ h' dx es n,(∀ b o,b ≠ x→s.heap.get? b=some o→h'.get? b=some o)→s.heap.get? dx=none→h'.get? x=some { ox with dict:=some dx }→h'.get? dx=some (dictOf es n)→es.any (·.refKey)=false→es.length≤1→Q () { s with heap:=h',toks:=s.toks + 2 }) :
  wpAny (model prog w) A (setAttr (.ref x) name v) Q E s:=by
 have I : W.InstAt s.heap x ox C none:=⟨hx,hcl,by unfold notCls; rw [hda],by rw [hd]; trivial⟩
 refine set_plain X I S.set (osa_exc (s:={ s with toks:=s.toks + 1 }) X I S ?_)
 unfold Builtin.ObjectAttr.storeInOwnDict
 obtain ⟨oc,odi,oda,osl⟩:=ox
 dsimp only at hcl hd hda
 subst hcl hd hda
 refine wpAny_bind (wpAny_pure (wpAny_bind (wpAny_bind (wpAny_loadPart hx (wpAny_bind (looks_clsIn X S.cls _ _ _ _ (fun _ _ e=>e) ?_))))))
 rw [S.dict]
 simp only [Bool.not_true,Bool.false_eq_true,if_false]
 rw [if_neg (show ¬ ((false || !typeHasDict (Value.ref C))=true) from by show ¬ ((false || !true)=true); decide)]
 have hxs:=Heap.lt_size hx
 have hne : x ≠ s.heap.objs.size:=Nat.ne_of_lt hxs
 refine wpAny_bind (wpAny_alloc ?_)
 have hx1:=Heap.get?_push_of_some { cls:=.type "dict",data:=.dict #[] } hx
 refine wpAny_bind (wpAny_update (s:={ s with heap:=s.heap.push { cls:=.type "dict",data:=.dict #[] },toks:=s.toks + 1 }) hx1 ?_)
 refine wpAny_pure ?_
 dsimp only
 have D : ((s.heap.push { cls:=.type "dict",data:=.dict #[] }).update x fun o=>{ cls:=o.cls,dict:=some s.heap.objs.size,data:=o.data,slots:=o.slots }).get? s.heap.objs.size=some (dictOf [] 0):=by
  rw [Heap.get?_update_other _ _ hne]
  exact Heap.get?_push_size _ rfl
 refine storeD (s:={ s with heap:=(s.heap.push { cls:=.type "dict",data:=.dict #[] }).update x fun o=>{ cls:=o.cls,dict:=some s.heap.objs.size,data:=o.data,slots:=o.slots },toks:=s.toks + 1 }) D rfl (by simp) fun h' es' n' hd' hr' hl' kp=>?_
 refine h h' s.heap.objs.size es' n' (fun b o hb e=>kp b o (Nat.ne_of_lt (Heap.lt_size e)) ((Heap.get?_update_other _ _ (Ne.symm hb)).trans (Heap.get?_push_of_some _ e))) (get_size _) (kp x _ hne ?_) hd' hr' hl'
 rw [Heap.get?_update_self _ hx1 rfl]
theorem exc_set2 {C x dx : Addr} {cd : ClassData} {ox : Obj} {vs : Array Value} {name : Str} {v : Value} {es : List DictEntry} {n : Nat} {Q : Unit→Shared→Prop} (X : K.In s.heap) (S : ExcSet K C cd name) (hx : s.heap.get? x=some ox) (hcl : ox.cls=.ref C) (hd : ox.dict=some dx) (hda : ox.data=.fields vs)
  (D : s.heap.get? dx=some (dictOf es n)) (hes : es.any (·.refKey)=false) (hz : es.length≤900)
  (h : ∀ h',(∀ b o,b ≠ dx→s.heap.get? b=some o→h'.get? b=some o)→Q () { s with heap:=h',toks:=s.toks + 2 }) :
  wpAny (model prog w) A (setAttr (.ref x) name v) Q E s:=by
 have I : W.InstAt s.heap x ox C (some (dictOf es n)):=⟨hx,hcl,by unfold notCls; rw [hda],by rw [hd]; exact D⟩
 refine set_plain X I S.set (osa_exc (s:={ s with toks:=s.toks + 1 }) X I S ?_)
 unfold Builtin.ObjectAttr.storeInOwnDict
 obtain ⟨oc,odi,oda,osl⟩:=ox
 dsimp only at hcl hd hda
 subst hcl hd hda
 refine wpAny_bind (wpAny_pure (wpAny_bind (wpAny_bind (wpAny_loadPart hx (wpAny_bind (looks_clsIn X S.cls _ _ _ _ (fun _ _ e=>e) ?_))))))
 rw [S.dict]
 refine wpAny_pure (a:=some dx) ?_
 refine storeD (s:={ s with toks:=s.toks + 1 }) D hes hz fun h' es' n' hd' hr' hl' kp=>?_
 exact h h' kp
end
section
variable {prog : Program} {w : World} {env : Env} {A : Around} {s : Shared} {E : Value→Shared→Prop}
theorem gf_shape {c0 : Value} {dd : Option Addr} {cd : ClassData} {sl : Array (Option Value)} {C : Addr} {bm : List Value} (h0 : c0=.type "type") (h1 : cd.hasDel=false) (h2 : sl.size=6) (h3 : sl[4]?=some (some (.builtin "Exception.__new__"))) (h4 : cd.mro=.ref C :: bm) :
  ∃ nm q N bs hdct sn sub ab col k0 k1 k2 k3 k5,(⟨c0,dd,.cls cd,sl⟩ : Obj)=gfObj nm q C N bs bm hdct sn sub ab col dd k0 k1 k2 k3 k5:=by
 obtain ⟨nm,bs,mro,N,q,hdct,sn,sub,ab,col,hdel⟩:=cd
 dsimp only at h1 h4
 subst h0 h1 h4
 obtain ⟨l⟩:=sl
 refine E51 (six_places (l:=l) (by simpa using h2) (by simpa using h3)) fun k0 k1 k2 k3 k5 q_0=>?_; subst q_0
 exact ⟨nm,q,N,bs,hdct,sn,sub,ab,col,k0,k1,k2,k3,k5,rfl⟩
theorem raise_made {nm q : Str} {C N : Addr} {bs bm : List Value} {hdct : Bool} {sn : List Str} {sub : List Value} {ab : Bool} {col : Option Bool} {dd : Option Addr} {k0 k1 k2 k3 k5 : Option Value} {x : Sem Value} {Q : Flow→Shared→Prop}
  (hbase : bm.contains (.type "BaseException")=true) (hh : A.handled=none)
  (h : wpAny (model prog w) A x (fun v s₁=>∃ e ta od,v=.ref e∧s₁.heap.get? C=some (gfObj nm q C N bs bm hdct sn sub ab col dd k0 k1 k2 k3 k5) ∧
   s₁.heap.get? e=some { cls:=.ref C,dict:=od,data:=.fields #[.ref ta,.none,.none,.none,.bool false,.none] }∧E (.ref e) s₁) E s) :
  wpAny (model prog w) A (raiseStmt env (some x) none) Q E s:=by
 have hcB : (Value.ref C :: bm).contains (.type "BaseException")=true:=by rw [List.contains_cons,hbase,Bool.or_true]
 unfold raiseStmt
 refine wpAny_bind (wpAny_mono h (fun v s₁ h₁=>?_) fun _ _ x=>x)
 refine E34 h₁ fun e ta od q_0 hC he hE=>?_; subst q_0
 obtain ⟨hp,g,d,tk,os⟩:=s₁
 dsimp only at hC he
 repeat (first | with_reducible refine wpAny_loadPart_at he ?_ | with_reducible refine wpAny_loadPart_at hC ?_ | (with_reducible refine wpAny_isSubtype_exc hC ?_; rw [hcB]) | wp_step)
 exact wpAny_raiseNew_none hh hE
end
end Mine
namespace Mine
open PySem PySem.W PySem.Calls PyProof.Rows
@[elab_as_elim] theorem beq_el {α : Type} [BEq α] [LawfulBEq α] {x y : α} {P : α→Prop} (h : (x == y)=true) (k : P y) : P x:=by
 rw [beq_iff_eq.mp h]; exact k
noncomputable def gfM (C : Addr) : List Value→Bool:=hdL fun v1 r=>hdL (fun v2 r=>vRef (fun _=>true) v2 && (v1 :: r) == [.ref C,.type "Exception",.type "BaseException",.type "object"]) r
theorem gfM_inv {C : Addr} {l : List Value} (h : gfM C l=true) : ∃ q,l=[.ref C,.ref q,.type "Exception",.type "BaseException",.type "object"]:=by
 refine hdL_el h fun v1 r h=>?_
 refine hdL_el h fun v2 r h=>?_
 refine vRef_el (T:=fun v2=>∃ q,v1 :: v2 :: r=[.ref C,.ref q,.type "Exception",.type "BaseException",.type "object"]) (a1 h) fun q _=>⟨q,?_⟩
 have e:=eq_of_beq (a2 h)
 injection e with e1 e2
 rw [e1,e2]
noncomputable def gfB (fd : FuncData) : List Stmt→Bool:=hdL fun s0 r=>l2 (fun s1 s2=>(fd.scope.names.lookup ("Exception" : Str) == some .globalImplicit && sExpr (eCall fun g es kw cp=>(kw.isEmpty && eAttr (fun o y ap=>(y == ("__init__" : Str) && ap.endLine == cp.line) && isNm "Exception" o) g) && l2 (fun z1 z2=>isNm "self" z1 && isNm "message" z2) es) s0) &&
 (setSt "self" "message" (isNm "message") s1 && setSt "self" "spot" (isNm "spot") s2)) r
theorem gfB_el {fd : FuncData} {P : List Stmt→Prop} {l : List Stmt} (h : gfB fd l=true) (k : ∀ p1 ap p2 p3 cp p4 p5 q5 p6 p7 p8 q8 p9 p10,fd.scope.names.lookup ("Exception" : Str)=some .globalImplicit→(Pos.endLine ap == Pos.line cp)=true→P [.Expr (.Call (.Attribute (.Name "Exception" p1) "__init__" ap) [.Name "self" p2,.Name "message" p3] [] cp) p4,.Assign [.Attribute (.Name "self" p5) "message" q5] (.Name "message" p6) p7,.Assign [.Attribute (.Name "self" p8) "spot" q8] (.Name "spot" p9) p10]) : P l:=by
 refine hdL_el h fun s0 r h=>?_
 refine hdL_el h fun s1 r h=>?_
 refine l1_el h fun s2 h=>?_
 refine sExpr_el (a2 (a1 h)) fun e p4 h0=>?_
 refine eCall_el h0 fun g es kw cp h0=>?_
 refine nil_el (a1 (a1 h0)) ?_
 refine eAttr_el (a2 (a1 h0)) fun o y ap h1=>?_
 refine str_el (a1 (a1 h1)) ?_
 refine isNm_el (a2 h1) fun p1=>?_
 refine hdL_el (a2 h0) fun z1 r h2=>?_
 refine l1_el h2 fun z2 h2=>?_
 refine isNm_el (a1 h2) fun p2=>?_
 refine isNm_el (a2 h2) fun p3=>?_
 refine setSt_el (a1 (a2 h)) fun p5 q5 e p7 h3=>?_
 refine isNm_el h3 fun p6=>?_
 refine setSt_el (a2 (a2 h)) fun p8 q8 e p10 h3=>?_
 refine isNm_el h3 fun p9=>?_
 exact k _ _ _ _ _ _ _ _ _ _ _ _ _ _ (eq_of_beq (a1 (a1 h))) (a2 (a1 h1))
noncomputable def okGf (K : Frag) : Bool:=o1 (fun o=>dCls (fun cd=>((o.cls == .type "type" && !cd.hasDel) && (cd.hasDict && decide (o.slots.size=6))) && (o.slots[4]? == some (some (.builtin "Exception.__new__")) && gfM (gfC K) cd.mro)) o.data) (K.lookup (gfC K))
noncomputable abbrev gfO (C : Addr) (q2 : Addr) (nm q : Str) (N : Addr) (bs : List Value) (hdct : Bool) (sn : List Str) (sub : List Value) (ab : Bool) (col : Option Bool) (dd : Option Addr) (k0 k1 k2 k3 k5 : Option Value) : Obj:=gfObj nm q C N bs [.ref q2,.type "Exception",.type "BaseException",.type "object"] hdct sn sub ab col dd k0 k1 k2 k3 k5
theorem gf_el {K : Frag} {T : Prop} (h : okGf K=true) (k : ∀ (cd : ClassData) (q2 : Addr) nm q N bs hdct sn sub ab col dd k0 k1 k2 k3 k5,K.lookup (gfC K)=some (gfO (gfC K) q2 nm q N bs hdct sn sub ab col dd k0 k1 k2 k3 k5)→clsIn K (gfC K)=some cd→cd.mro=[.ref (gfC K),.ref q2,.type "Exception",.type "BaseException",.type "object"]→cd.hasDict=true→T) : T:=by
 unfold okGf at h
 cases hq : K.lookup (gfC K) with
 | none=>rw [hq] at h; cases h
 | some o=>
  rw [hq] at h
  obtain ⟨oc,od,oda,osl⟩:=o
  have h : dCls (fun cd=>((oc == .type "type" && !cd.hasDel) && (cd.hasDict && decide (osl.size=6))) && (osl[4]? == some (some (.builtin "Exception.__new__")) && gfM (gfC K) cd.mro)) oda=true:=h
  refine (dCls_el (P:=fun d=>∃ cd,d=.cls cd∧(((oc == .type "type" && !cd.hasDel) && (cd.hasDict && decide (osl.size=6))) && (osl[4]? == some (some (.builtin "Exception.__new__")) && gfM (gfC K) cd.mro))=true) h fun a h=>⟨a,rfl,h⟩).elim fun cd h=>?_
  obtain ⟨rfl,h⟩:=h
  refine E11 (gfM_inv (a2 (a2 h))) fun q2 hmro=>?_
  obtain ⟨nm,q,N,bs,hdct,sn,sub,ab,col,s0,s1,s2,s3,s5,hobj⟩:=gf_shape (dd:=od) (eq_of_beq (a1 (a1 (a1 h)))) (nt (a2 (a1 (a1 h)))) (of_decide_eq_true (a2 (a2 (a1 h)))) (eq_of_beq (a1 (a2 h))) hmro
  exact k cd q2 nm q N bs hdct sn sub ab col od s0 s1 s2 s3 s5 (hq.trans (congrArg some hobj)) (by unfold clsIn; rw [hq]) hmro (a1 (a2 (a1 h)))
noncomputable def okRaise (K : Frag) : Bool:=(okGf K && okInit K (gfC K) ["self","message","spot"] gfB) && ((findIn K (.ref (gfC K)) "__setattr__" == some (some (.builtin "object.__setattr__")) && (nsN (findIn K (.ref (gfC K)) "message") && nsN (findIn K (.ref (gfC K)) "spot"))) &&
 ((okExI K && okB1 K "Exception" (.type "Exception")) && (keepIn K (.ref (gfC K)) && ns2 (nsIn K mainGlobals "GrammarFault") (· == .ref (gfC K)))))
section
variable {W : Wo} {F : Fx} {C : Cx F} {Γ : Loc} {S : Sx W C Γ} {E : Value→Shared→Prop}
theorem gfMake_wp {Q : Value→Shared→Prop} {c1 c2 : Value} (ok : okRaise W.K=true)
  (h : ∀ x ta od h' tk,St W S.G S.σ C.L C.Fs h'→S.G.I x=none→h'.get? x=some { cls:=.ref (gfC W.K),dict:=od,data:=.fields #[.ref ta,.none,.none,.none,.bool false,.none] }→Q (.ref x) { S.s with heap:=h',toks:=tk }) :
  wpAny W.m C.A (call (.ref (gfC W.K)) [c1,c2]) Q E S.s:=by
 have k1:=a2 (a1 ok)
 have k2:=a1 (a2 ok)
 have k3:=a1 (a2 (a2 ok))
 refine gf_el (a1 (a1 ok)) fun cd q2 nm q N bs hdct sn sub ab col dd s0 s1 s2 s3 s5 hlc hcls hmro hdc=>?_
 refine init_el k1 fun oc fd body hlook hod fo hdf hbody hf=>?_
 revert hbody
 refine gfB_el (P:=fun body=>fd.body=.stmts body→_) hf fun p1 ap p2 p3 cp p4 p5 q5 p6 p7 p8 q8 p9 p10 hli g5 hbody=>?_
 have X:=S.X
 have hCs : S.s.heap.get? (gfC W.K)=some _:=X.base_get (W.kin _ _ hlc)
 have hset : ∀ name,nsN (findIn W.K (.ref (gfC W.K)) name)=true→ExcSet W.K (gfC W.K) cd name:=fun name e=>⟨hcls,hdc,by rw [hmro]; rfl,fun self=>by rw [hmro,refuseLoop_ref,refuseLoop_ref]; kernel_rfl,eq_of_beq (a1 k2),nsN_el e⟩
 have hsub : subIn W.K (.ref (gfC W.K)) (.type "Exception")=some true:=by
  show mroIn W.K (gfC W.K) _=_
  unfold mroIn; rw [hcls,Option.bind_some,hmro]; rfl
 refine gf_call (K:=W.K) S.kin hCs rfl rfl rfl (by rw [sizeLine_eq]; exact (by decide : 2≤16777216)) (eq_of_beq (a1 (a1 k1))) (a2 (a1 k1)) ?_
 generalize hs0 : S.s.heap=hs at *
 have kp1 : ∀ b o,hs.get? b=some o→((hs.push { cls:=.type "tuple",data:=.seq [c1,c2].toArray }).push (excObj (gfC W.K) hs.objs.size)).get? b=some o:=fun b o e=>Heap.get?_push_of_some _ (Heap.get?_push_of_some _ e)
 have he1 : ((hs.push { cls:=.type "tuple",data:=.seq [c1,c2].toArray }).push (excObj (gfC W.K) hs.objs.size)).get? (hs.objs.size + 1)=some (excObj (gfC W.K) hs.objs.size):=by
  have:=Heap.get?_push_size (hs.push { cls:=.type "tuple",data:=.seq [c1,c2].toArray }) (o:=excObj (gfC W.K) hs.objs.size) rfl
  rwa [Heap.size_push] at this
 have hfresh : hs.get? (hs.objs.size + 1)=none:=Heap.get?_none_of_le (Nat.le_succ _)
 generalize (hs.push { cls:=.type "tuple",data:=.seq [c1,c2].toArray }).push (excObj (gfC W.K) hs.objs.size)=h₁ at kp1 he1 ⊢
 have X1 : St W S.G S.σ C.L C.Fs h₁:=X.keeps kp1
 generalize hs.objs.size + 1=x at he1 hfresh ⊢
 have hdep : (C.A.under (.builtin "type.__call__" ⟨.ref (gfC W.K) :: [c1,c2],[]⟩)).depth < recursionLimit:=by
  have:=C.r.depth
  have e1:=typeCall_weight (gfC W.K) [c1,c2]
  show C.A.depth + _ < _
  lia
 refine wpAny_call (init_enter (W:=W) (s:=⟨h₁,S.s.gens,S.s.drawn,S.s.toks,S.s.os⟩) fo hdf (fun b o e=>X1.base_get e) hlook hod hbody hdep rfl fun env h₂ tk₂ m₂ ie=>?_)
 have kp2 : ∀ b o,h₁.get? b=some o→h₂.get? b=some o:=ie.kp
 have nsm : h₂.Ns h₁.objs.size m₂:=ie.ns
 have hi : interactive env=false:=by unfold interactive; rw [ie.sk]; rfl
 have hxL : h₁.objs.size ≠ x:=fun q=>by rw [← q,get_size] at he1; cases he1
 have pl2 : Plains env [.Name "self" p2,.Name "message" p3]:=List.forall_mem_cons.mpr ⟨fun _=>rfl,List.forall_mem_cons.mpr ⟨fun _=>rfl,fun _ h=>nomatch h⟩⟩
 refine wpAny_execs_cons (wpAny_Expr_any (mcall_wp (W:=W) (fun _ _=>rfl) g5 pl2 rfl ?_) hi rfl)
 refine ie.bi (W:=W) (fun b o e=>kp2 b o (X1.base_get e)) hli (a2 k3) ?_
 refine exI_wp (K:=W.K) (W.kin.keeps fun b o e=>kp2 b o (X1.base_get e)) (a1 k3) fun tk₃=>?_
 refine callM_wp (W:=W) pl2 ?_
 refine wpAny_items_cons (ie.nm fo (i:=0) nsm rfl rfl (by decide) ?_) rfl
 refine wpAny_items_cons (ie.nm fo (i:=1) nsm rfl rfl (by decide) ?_) rfl
 refine wpAny_items_nil ?_
 refine exInit_wp (K:=W.K) (C:=gfC W.K) (W.kin.keeps fun b o e=>kp2 b o (X1.base_get e)) hsub (kp2 _ _ (kp1 _ _ hCs)) (kp2 _ _ he1) (by rw [sizeLine_eq]; exact (by decide : 1≤16777216)) fun h₃ ta₃ kp3 he3 _=>?_
 have kpS3 : ∀ b o,hs.get? b=some o→h₃.get? b=some o:=fun b o e=>kp3 b o (fun q=>by rw [q,hfresh] at e; cases e) (kp2 _ _ (kp1 _ _ e))
 have nsm3 : h₃.Ns h₁.objs.size m₂:=nsm.at' fun o e=>kp3 _ o hxL e
 have X3 : St W S.G S.σ C.L C.Fs h₃:=X.keeps kpS3
 refine wpAny_execs_cons (plainObj_wpAny_Assign_Attribute (ie.nm fo (i:=1) nsm3 rfl rfl (by decide) ?_))
 refine ie.nm fo (i:=0) nsm3 rfl rfl (by decide) ?_
 refine exc_set1 (K:=W.K) (W.kin.keeps fun b o e=>X3.base_get e) (hset "message" (a1 (a2 k2))) he3 rfl rfl rfl fun h₄ dx es nn kp4 hdx he4 hd4 hes4 hz4=>?_
 have kpS4 : ∀ b o,hs.get? b=some o→h₄.get? b=some o:=fun b o e=>kp4 b o (fun q=>by rw [q,hfresh] at e; cases e) (kpS3 _ _ e)
 have nsm4 : h₄.Ns h₁.objs.size m₂:=nsm3.at' fun o e=>kp4 _ o hxL e
 have X4 : St W S.G S.σ C.L C.Fs h₄:=X.keeps kpS4
 refine wpAny_execs_cons (plainObj_wpAny_Assign_Attribute (ie.nm fo (i:=2) nsm4 rfl rfl (by decide) ?_))
 refine ie.nm fo (i:=0) nsm4 rfl rfl (by decide) ?_
 refine exc_set2 (K:=W.K) (W.kin.keeps fun b o e=>X4.base_get e) (hset "spot" (a2 (a2 k2))) he4 rfl rfl rfl hd4 hes4 (Nat.le_trans hz4 (by decide)) fun h₅ kp5=>?_
 have hdS : hs.get? dx=none:=by
  cases q : hs.get? dx with
  | none=>rfl
  | some o=>have:=kpS3 _ _ q; rw [hdx] at this; cases this
 have hxd : x ≠ dx:=fun q=>by rw [← q,he3] at hdx; cases hdx
 have kpS5 : ∀ b o,hs.get? b=some o→h₅.get? b=some o:=fun b o e=>kp5 b o (fun q=>by rw [q,hdS] at e; cases e) (kpS4 _ _ e)
 refine wpAny_execs_nil ⟨rfl,?_⟩
 exact h x ta₃ (some dx) h₅ _ (X.keeps kpS5) (X.inv.fresh hfresh).i (kp5 _ _ hxd he4)
theorem s_raise {np cpos pos : Pos} {a b : PySem.Expr} {fa fb : Loc→Store→Ke→Kv→Prop} (ok : okRaise W.K=true) (hx : F.env.kindOf "GrammarFault"=some .globalImplicit) (ha : Plain1 F.env a) (hb : Plain1 F.env b)
  (h1 : SndE W F a fa) (h2 : SndE W F b fb) :
  SndS W F (.Raise (some (.Call (.Name "GrammarFault" np) [a,b] [] cpos)) none pos) (fun N j Γ σ=>fa Γ σ j.E fun x σ=>fb Γ σ j.E fun y σ=>Vd x fun _=>Vd y fun _=>j.E σ):=fun {C Γ} fs S N J h Q E hQ hE=>by
 refine gf_el (a1 (a1 ok)) fun cd q2 nm qq N bs hdct sn sub ab col dd s0 s1 s2 s3 s5 hlc hcls hmro hdc=>ns2_el (a2 (a2 (a2 (a2 ok)))) fun v hv q=>?_
 have pl2 : Plains F.env [a,b]:=List.forall_mem_cons.mpr ⟨ha,List.forall_mem_cons.mpr ⟨hb,fun _ h=>nomatch h⟩⟩
 simp only [arm_exec_Raise]
 refine wpAny_bind (wpAny_standAt ?_)
 show wpAny _ C.A (raiseStmt F.env (some (do let v ← eval (.Call (.Name "GrammarFault" np) [a,b] [] cpos) F.env; standAt pos; pure v)) none) _ _ _
 refine raise_made (nm:=nm) (q:=qq) (N:=N) (bs:=bs) (hdct:=hdct) (sn:=sn) (sub:=sub) (ab:=ab) (col:=col) (dd:=dd) (k0:=s0) (k1:=s1) (k2:=s2) (k3:=s3) (k5:=s5) (C:=gfC W.K) (bm:=[.ref q2,.type "Exception",.type "BaseException",.type "object"]) rfl C.r.handled (wpAny_bind (Call_Name rfl (wp_global hx (by decide +kernel) (eq_of_beq q ▸ hv) (callF_wp (a1 (a2 (a2 (a2 ok)))) pl2 ?_))))
 refine wpAny_items_cons (h1 S h (fun u cu S1 l1 r1 h=>wpAny_items_cons (h2 S1 h (fun v cv S2 l2 r2 h=>wpAny_items_nil ⟨S2.kin,gfMake_wp ok fun x ta od h' tk X' hIx hx'=>wpAny_bind (wpAny_standAt (wpAny_pure ⟨x,ta,od,rfl,X'.base_get (W.kin _ _ hlc),hx',?_⟩))⟩) (hE.toE.up l1)) (hb _)) hE.toE) (ha _)
 exact Vd_el h r1 fun _ _ h=>Vd_el h r2 fun _ _ h=>hE (S2.to S2.G S2.σ h' tk (.refl _) X') x (l1.trans (l2.trans (S2.to_le _ X'))).x (.inl ⟨⟨_,_,_,hx',rfl,rfl,rfl,rfl⟩,hIx⟩) h
end
end Mine
namespace Mine
open PySem PySem.W PySem.Calls PyProof.Rows
noncomputable def gi (ks : Ks) (x : Str) : Bool:=ks x == some .globalImplicit
noncomputable def nd (x : Str) : Bool:=!(x == ("__debug__" : Str))
noncomputable def compChk (ks : Ks) (vs : Vars) (scope : Scope) (t : PySem.Expr) (ts : List Nat) : Bool:=compOk ks scope && (injB (vs2 ks scope t ts vs) && bindOk (ks2 ks scope) (vs2 ks scope t ts vs) t ts)
noncomputable def fnChk (K : Frag) (f : Fn) (ks : Ks) : PySem.Expr→Bool:=eName fun x=>(x == fnNm f && !isWm f) && (okF1 K f && gi ks x)
noncomputable def mChk (nm : Str) (g : PySem.Expr→Bool) (p : Pos) : PySem.Expr→Bool:=eAttr fun o x ap=>(x == nm && ap.endLine == p.line) && g o
mutual
noncomputable def chkE (K : Frag) : X→Ks→Vars→PySem.Expr→Bool
 | .c d,_,_,e=>eConst (fun c=>constOk c d) e
 | .v i,_,vs,e=>eName (fun x=>vs.lookup x == some i && nd x) e
 | .g g,ks,_,e=>eName (fun x=>x == gname g && (okG K g && gi ks x)) e
 | .fn f,ks,_,e=>fnChk K f ks e
 | .tup es,ks,vs,e=>eTup (chkEs K es ks vs) e
 | .lst _ es,ks,vs,e=>eList (chkEs K es ks vs) e
 | .neg a,ks,vs,e=>eUn (fun o e'=>decide (o=.USub) && chkE K a ks vs e') e
 | .not a,ks,vs,e=>eUn (fun o e'=>decide (o=.Not) && chkE K a ks vs e') e
 | .bin o a b,ks,vs,e=>eBin (fun l op r=>decide (opOf o=op) && (chkE K a ks vs l && chkE K b ks vs r)) e
 | .bop isAnd es,ks,vs,e=>eBo (fun op es'=>decide (op=boOf isAnd) && (!es'.isEmpty && chkEs K es ks vs es')) e
 | .ite t a b,ks,vs,e=>eIf (fun t' a' b'=>chkE K t ks vs t' && (chkE K a ks vs a' && chkE K b ks vs b')) e
 | .cmp o a b,ks,vs,e=>eCmp (fun l os rs=>l1 (fun op=>l1 (fun r=>(decide (copOf o=op) && !behindInMarks op r) && (chkE K a ks vs l && chkE K b ks vs r)) rs) os) e
 | .idx a b,ks,vs,e=>eSub (fun l i=>chkE K a ks vs l && chkE K b ks vs i) e
 | .slLo a b,ks,vs,e=>eSub (fun l i=>eSli (fun x y z=>o1 (fun i=>(oN y && oN z) && (chkE K a ks vs l && chkE K b ks vs i)) x) i) e
 | .slHi _ a b,ks,vs,e=>eSub (fun l i=>eSli (fun x y z=>o1 (fun i=>(oN x && oN z) && (chkE K a ks vs l && chkE K b ks vs i)) y) i) e
 | .slLH a b c,ks,vs,e=>eSub (fun l i=>eSli (fun x y z=>o1 (fun i=>o1 (fun j=>(oN z && chkE K a ks vs l) && (chkE K b ks vs i && chkE K c ks vs j)) y) x) i) e
 | .rev a,ks,vs,e=>eSub (fun l i=>eSli (fun x y z=>(oN x && oN y) && (o1 (eUn fun o u=>decide (o=.USub) && eConst (cI 1) u) z && chkE K a ks vs l)) i) e
 | .call f es,ks,vs,e=>eCall (fun g es' kw _=>(kw.isEmpty && fnChk K f ks g) && (!es'.isEmpty && chkEs K es ks vs es')) e
 | .callV i es,ks,vs,e=>eCall (fun g es' kw _=>(kw.isEmpty && eName (fun x=>vs.lookup x == some i && nd x) g) && (!es'.isEmpty && chkEs K es ks vs es')) e
 | .prim p _ es,ks,vs,e=>eCall (fun g es' kw _=>(kw.isEmpty && eName (fun x=>x == primNm p && gi ks x) g) && @Option.casesOn _ (fun _=>Bool) (isiNm p) (!es'.isEmpty && chkEs K es ks vs es') fun y=>l2 (fun e1 z=>eName (fun z=>z == y && gi ks z) z && chkEs K es ks vs [e1]) es') e
 | .mth m o es,ks,vs,e=>eCall (fun g es' kw p=>(kw.isEmpty && mChk (mthNm m) (chkE K o ks vs) p g) && (decide (es'.length < 30) && chkEs K es ks vs es')) e
 | .wm f o es,ks,vs,e=>eCall (fun g es' kw p=>(kw.isEmpty && mChk (fnNm f) (chkE K o ks vs) p g) && ((decide (es'.length < 30) && isWm f) && chkEs K es ks vs es')) e
 | .rows o,ks,vs,e=>eAttr (fun o' x _=>x == ("rows" : Str) && chkE K o ks vs o') e
 | .wat o,ks,vs,e=>eAttr (fun o' x _=>x == ("at" : Str) && chkE K o ks vs o') e
 | .mkW a,ks,vs,e=>eCall (fun g es' kw _=>(kw.isEmpty && eName (fun x=>x == ("Words" : Str) && gi ks x) g) && l1 (chkE K a ks vs) es') e
 | .pop i,_,vs,e=>eCall (fun g es' kw p=>(kw.isEmpty && es'.isEmpty) && mChk "pop" (eName fun x=>vs.lookup x == some i && nd x) p g) e
 | .comp _ elt ts it,ks,vs,e=>eLC (fun elt' gs scope _=>l1 (fun g=>((g.ifs.isEmpty && decide (g.is_async=0)) && compChk ks vs scope g.target ts) && (chkE K it ks vs g.iter && chkE K elt (ks2 ks scope) (vs2 ks scope g.target ts vs) elt')) gs) e
 | .compIf elt ts it tt,ks,vs,e=>eLC (fun elt' gs scope _=>l1 (fun g=>((l1 (chkE K tt (ks2 ks scope) (vs2 ks scope g.target ts vs)) g.ifs && decide (g.is_async=0)) && compChk ks vs scope g.target ts) && (chkE K it ks vs g.iter && chkE K elt (ks2 ks scope) (vs2 ks scope g.target ts vs) elt')) gs) e
 | .dct kvs,_,_,e=>eDct (fun ks' es'=>dctOk kvs ks' es' && (decide (kvs.map fun p=>(⟨p.1.toArray⟩ : Str)).Nodup && decide (kvs ≠ []∧kvs.length≤15))) e
 | .bad,_,_,e=>eCall (fun g _ _ _=>eAttr (fun _ _ _=>true) g) e
noncomputable def chkEs (K : Frag) : List X→Ks→Vars→List PySem.Expr→Bool
 | [],_,_,es'=>es'.isEmpty
 | x :: xs,ks,vs,es'=>hdL (fun e r=>chkE K x ks vs e && chkEs K xs ks vs r) es'
end
structure KOk (K : Frag) : Prop where
 bs : okBs K=true
 w : okW K=true
 at_ : okSet K (wordsC K) "at"=true
 iw : okInitW K=true
 ra : okRaise K=true
 ex : okExcM K=true
 k1 : ∀ f,okK1 K f=true
 wn : ns2 (nsIn K mainGlobals "Words") (· == .ref (wordsC K))=true
 wk : keepIn K (.ref (wordsC K))=true
section
variable {W : Wo} {B : Prop→Prop} {D : Fn→List V→Store→Ke→Kv→Prop} {F : Fx} {e : PySem.Expr} {f : Loc→Store→Ke→Kv→Prop} {x : X} {pos : Pos}
structure SndL (W : Wo) (F : Fx) (es : List PySem.Expr) (ws : List Wx) : Prop where
 r : SndR W F es (wRow ws)
 p : Plains F.env es
 t : ∀ o,SndBT W F o es (wRowT o ws)
 b : ∀ o,es ≠ []→SndB W F o es (wRowB o ws)
 l : es.length=ws.length
 one : ∀ e,es=[e]→∃ w,ws=[w]∧SndE W F e w.v
theorem sndL_nil : SndL W F [] []:=⟨snd_nil,Plains.nil,fun _=>sndBT_nil,fun _ h=>absurd rfl h,rfl,fun _ h=>nomatch h⟩
theorem sndB_one {o : Bool} (h1 : SndE W F e f) : SndB W F o [e] f:=fun S KE K pos h Q E hQ hE=>h1 S h hQ hE
theorem sndL_cons {w : Wx} {es : List PySem.Expr} {ws : List Wx} (h1 : SndX W F x e w) (h2 : SndL W F es ws) : SndL W F (e :: es) (w :: ws):=
 ⟨snd_cons h1.v h2.r h1.y.st,List.forall_mem_cons.mpr ⟨h1.y.st,h2.p⟩,fun o=>sndBT_cons h1.t (h2.t o),fun o _=>by
  cases es with
  | nil=>cases ws with
   | nil=>exact sndB_one h1.v
   | cons=>exact absurd h2.l (fun h=>nomatch h)
  | cons e2 es=>cases ws with
   | nil=>exact absurd h2.l (fun h=>nomatch h)
   | cons w2 ws=>exact sndB_cons h1.v (h2.b o (List.cons_ne_nil _ _)),congrArg (· + 1) h2.l,fun e' q=>by
  injection q with q1 q2
  subst q1; subst q2
  cases ws with
  | nil=>exact ⟨w,rfl,h1.v⟩
  | cons=>exact absurd h2.l (fun h=>nomatch h)⟩
theorem snd_bad : SndE W F e (fun _ _ _ _=>False):=fun S KE K h Q E hQ hE=>h.elim
theorem fnChk_el {K : Frag} {fn : Fn} {ks : Ks} {P : PySem.Expr→Prop} (h : fnChk K fn ks e=true) (k : ∀ p,isWm fn=false→okF1 K fn=true→ks (fnNm fn)=some .globalImplicit→P (.Name (fnNm fn) p)) : P e:=
 eName_el h fun x p h=>by
  have e1:=eq_of_beq (a1 (a1 h))
  subst e1
  exact k p (nt (a2 (a1 h))) (a1 (a2 h)) (eq_of_beq (a2 (a2 h)))
theorem mChk_el {nm : Str} {g : PySem.Expr→Bool} {P : PySem.Expr→Prop} (h : mChk nm g pos e=true) (k : ∀ o ap,(Pos.endLine ap == pos.line)=true→g o=true→P (.Attribute o nm ap)) : P e:=
 eAttr_el h fun o x ap h=>by
  have e1:=eq_of_beq (a1 (a1 h))
  subst e1
  exact k o ap (a2 (a1 h)) (a2 h)
theorem gnm_el {y : Str} {ks : Ks} {P : PySem.Expr→Prop} (h : eName (fun x=>x == y && gi ks x) e=true) (k : ∀ p,ks y=some .globalImplicit→P (.Name y p)) : P e:=
 eName_el h fun x p h=>by
  have e1:=eq_of_beq (a1 h)
  subst e1
  exact k p (eq_of_beq (a2 h))
theorem vr_el {i : Nat} {vs : Vars} {P : PySem.Expr→Prop} (h : eName (fun x=>vs.lookup x == some i && nd x) e=true) (k : ∀ x p,vs.lookup x=some i→(x == ("__debug__" : Str))=false→P (.Name x p)) : P e:=
 eName_el h fun x p h=>k x p (eq_of_beq (a1 h)) (nt (a2 h))
variable (W B D) in
noncomputable def PXn (x : X) : Prop:=∀ {F : Fx} {e : PySem.Expr},SndF W F.n D→chkE W.K x F.env.kindOf F.vs e=true→SndX W F x e (wX B D x)
variable (W B D) in
noncomputable def PL (xs : List X) : Prop:=∀ {F : Fx} {es : List PySem.Expr},SndF W F.n D→chkEs W.K xs F.env.kindOf F.vs es=true→SndL W F es (wL B D xs)
theorem comp_ok {scope : Scope} {elt target : PySem.Expr} {ifs : List PySem.Expr} {ts : List Nat} {fe : Loc→Store→Ke→Kv→Prop} {ft : Loc→Store→Ke→Kb→Prop} (h : compChk F.env.kindOf F.vs scope target ts=true)
  (hE : ∀ F2 : Fx,F2.n=F.n→F2.env.kindOf=ks2 F.env.kindOf scope→F2.vs=vs2 F.env.kindOf scope target ts F.vs→SndE W F2 elt fe∧SndTs W F2 ifs ft) (C : Cx F) : CompOk W F scope elt target ifs ts fe ft:=
 ⟨a1 h,inj_of (a1 (a2 h)),a2 (a2 h),fun Ca=>(hE (F.comp scope target ts Ca) rfl (funext fun x=>comp_kind C.e.kind x) rfl).1,fun Ca=>(hE (F.comp scope target ts Ca) rfl (funext fun x=>comp_kind C.e.kind x) rfl).2⟩
end
end Mine
namespace Mine
open PySem PySem.W PySem.Calls PyProof.Rows
section
variable {W : Wo} {B : Prop→Prop} {D : Fn→List V→Store→Ke→Kv→Prop}
theorem px_all (ko : KOk W.K) (hB : ∀ P,B P→P) : ∀ x,PXn W B D x:=by
 refine X.rec (motive_1:=PXn W B D) (motive_2:=PL W B D) ?_ ?_ ?_ ?_ ?_ ?_ ?_ ?_ ?_ ?_ ?_ ?_ ?_ ?_ ?_ ?_ ?_ ?_ ?_ ?_ ?_ ?_ ?_ ?_ ?_ ?_ ?_ ?_ ?_ ?_ ?_ ?_
 ·exact fun d F e hF h=>eConst_el h fun c k p h=>.of (snd_const h) (fun _=>rfl) (by constructor <;> intros <;> rfl)
 ·exact fun i F e hF h=>vr_el (P:=fun e=>SndX W F (.v i) e _) h fun x p h1 h2=>.of (snd_name h1 h2) (fun _=>rfl) (by constructor <;> intros <;> rfl)
 ·exact fun g F e hF h=>eName_el h fun x p h=>by
   have e1:=eq_of_beq (a1 h)
   subst e1
   exact .of (snd_g (a1 (a2 h)) (eq_of_beq (a2 (a2 h)))) (fun _=>rfl) (by constructor <;> intros <;> rfl)
 ·exact fun f F e hF h=>fnChk_el (P:=fun e=>SndX W F (.fn f) e _) h fun p h1 h2 h3=>.of (snd_fn h2 h1 h3) (fun _=>rfl) (by constructor <;> intros <;> rfl)
 ·exact fun es ih F e hF h=>eTup_el h fun es' k p h=>.of (snd_tup (ih hF h).r) (fun _=>rfl) ⟨fun _=>rfl,fun _ _=>rfl,fun _ _=>rfl,fun _=>rfl,fun _ _ _=>rfl,fun h=>nomatch h⟩
 ·exact fun mu es ih F e hF h=>eList_el h fun es' p h=>.of (snd_lst (ih hF h).r) (fun _=>rfl) (by constructor <;> intros <;> rfl)
 ·exact fun a ih F e hF h=>eUn_el h fun o e' p h=>dec_el (P:=fun o=>SndX W F (.neg a) (.UnaryOp o e' p) _) (a1 h) (.of (snd_neg (ih hF (a2 h)).v) (fun _=>rfl) (by constructor <;> intros <;> rfl))
 ·exact fun a ih F e hF h=>eUn_el h fun o e' p h=>dec_el (P:=fun o=>SndX W F (.not a) (.UnaryOp o e' p) _) (a1 h) ⟨snd_not (ih hF (a2 h)).v,sndT_not (ih hF (a2 h)).t,by constructor <;> intros <;> rfl⟩
 ·exact fun o a b iha ihb F e hF h=>eBin_el h fun l op r p h=>.of (snd_bin (of_decide_eq_true (a1 h)) (iha hF (a1 (a2 h))).v (ihb hF (a2 (a2 h))).v) (fun _=>rfl) (by constructor <;> intros <;> rfl)
 ·exact fun o es ih F e hF h=>eBo_el h fun op es' p h=>dec_el (P:=fun op=>SndX W F (.bop o es) (.BoolOp op es' p) _) (a1 h) ⟨snd_bop ((ih hF (a2 (a2 h))).b o (List.isEmpty_eq_false_iff.mp (nt (a1 (a2 h))))),sndT_bop ((ih hF (a2 (a2 h))).t o),by constructor <;> intros <;> rfl⟩
 ·exact fun t a b iht iha ihb F e hF h=>eIf_el h fun t' a' b' p h=>⟨snd_ite (iht hF (a1 h)).t (iha hF (a1 (a2 h))).v (ihb hF (a2 (a2 h))).v,sndT_ite (iht hF (a1 h)).t (iha hF (a1 (a2 h))).t (ihb hF (a2 (a2 h))).t,by constructor <;> intros <;> rfl⟩
 ·exact fun o a b iha ihb F e hF h=>eCmp_el h fun l os rs p h=>l1_el (P:=fun os=>SndX W F (.cmp o a b) (.Compare l os rs p) _) h fun op h=>l1_el (P:=fun rs=>SndX W F (.cmp o a b) (.Compare l [op] rs p) _) h fun r h=>
   ⟨snd_cmp (of_decide_eq_true (a1 (a1 h))) (nt (a2 (a1 h))) (iha hF (a1 (a2 h))).v (ihb hF (a2 (a2 h))).v,sndT_cmp (of_decide_eq_true (a1 (a1 h))) (nt (a2 (a1 h))) (iha hF (a1 (a2 h))).v (ihb hF (a2 (a2 h))).v,by constructor <;> intros <;> rfl⟩
 ·exact fun a b iha ihb F e hF h=>eSub_el h fun l i p h=>.of (snd_idx (ihb hF (a2 h)).y.sl (iha hF (a1 h)).v (ihb hF (a2 h)).v) (fun _=>rfl) (by constructor <;> intros <;> rfl)
 ·exact fun a b iha ihb F e hF h=>eSub_el h fun l s p h=>eSli_el (P:=fun s=>SndX W F (.slLo a b) (.Subscript l s p) _) h fun x y z q h=>o1_el (P:=fun x=>SndX W F (.slLo a b) (.Subscript l (.Slice x y z q) p) _) h fun i h=>
   oN_el (P:=fun y=>SndX W F (.slLo a b) (.Subscript l (.Slice (some i) y z q) p) _) (a1 (a1 h)) (oN_el (P:=fun z=>SndX W F (.slLo a b) (.Subscript l (.Slice (some i) none z q) p) _) (a2 (a1 h)) (.of (snd_slLo (iha hF (a1 (a2 h))).v (ihb hF (a2 (a2 h))).v) (fun _=>rfl) (by constructor <;> intros <;> rfl)))
 ·exact fun mu a b iha ihb F e hF h=>eSub_el h fun l s p h=>eSli_el (P:=fun s=>SndX W F (.slHi mu a b) (.Subscript l s p) _) h fun x y z q h=>o1_el (P:=fun y=>SndX W F (.slHi mu a b) (.Subscript l (.Slice x y z q) p) _) h fun i h=>
   oN_el (P:=fun x=>SndX W F (.slHi mu a b) (.Subscript l (.Slice x (some i) z q) p) _) (a1 (a1 h)) (oN_el (P:=fun z=>SndX W F (.slHi mu a b) (.Subscript l (.Slice none (some i) z q) p) _) (a2 (a1 h)) (.of (snd_slHi (iha hF (a1 (a2 h))).v (ihb hF (a2 (a2 h))).v) (fun _=>rfl) (by constructor <;> intros <;> rfl)))
 ·exact fun a b c iha ihb ihc F e hF h=>eSub_el h fun l s p h=>eSli_el (P:=fun s=>SndX W F (.slLH a b c) (.Subscript l s p) _) h fun x y z q h=>o1_el (P:=fun x=>SndX W F (.slLH a b c) (.Subscript l (.Slice x y z q) p) _) h fun i h=>
   o1_el (P:=fun y=>SndX W F (.slLH a b c) (.Subscript l (.Slice (some i) y z q) p) _) h fun j h=>oN_el (P:=fun z=>SndX W F (.slLH a b c) (.Subscript l (.Slice (some i) (some j) z q) p) _) (a1 (a1 h)) (.of (snd_slLH (iha hF (a2 (a1 h))).v (ihb hF (a1 (a2 h))).v (ihc hF (a2 (a2 h))).v) (fun _=>rfl) (by constructor <;> intros <;> rfl))
 ·exact fun a ih F e hF h=>eSub_el h fun l s p h=>eSli_el (P:=fun s=>SndX W F (.rev a) (.Subscript l s p) _) h fun x y z q h=>by
   refine oN_el (P:=fun x=>SndX W F (.rev a) (.Subscript l (.Slice x y z q) p) _) (a1 (a1 h)) (oN_el (P:=fun y=>SndX W F (.rev a) (.Subscript l (.Slice none y z q) p) _) (a2 (a1 h)) (o1_el (P:=fun z=>SndX W F (.rev a) (.Subscript l (.Slice none none z q) p) _) (a1 (a2 h)) fun u h1=>?_))
   refine eUn_el (P:=fun u=>SndX W F (.rev a) (.Subscript l (.Slice none none (some u) q) p) _) h1 fun o c p2 h1=>?_
   refine dec_el (P:=fun o=>SndX W F (.rev a) (.Subscript l (.Slice none none (some (.UnaryOp o c p2)) q) p) _) (a1 h1) ?_
   refine eConst_el (P:=fun c=>SndX W F (.rev a) (.Subscript l (.Slice none none (some (.UnaryOp .USub c p2)) q) p) _) (a2 h1) fun c k p3 h1=>?_
   refine cI_el (P:=fun c=>SndX W F (.rev a) (.Subscript l (.Slice none none (some (.UnaryOp .USub (.Constant c k p3) p2)) q) p) _) h1 ?_
   exact .of (snd_rev (ih hF (a2 (a2 h))).v) (fun _=>rfl) (by constructor <;> intros <;> rfl)
 ·exact fun f es ih F e hF h=>eCall_el h fun g es' kw p h=>by
   refine nil_el (P:=fun kw=>SndX W F (.call f es) (.Call g es' kw p) _) (a1 (a1 h)) (fnChk_el (P:=fun g=>SndX W F (.call f es) (.Call g es' [] p) _) (a2 (a1 h)) fun q h1 h2 h3=>?_)
   have i:=ih hF (a2 (a2 h))
   revert i
   exact ne_el (P:=fun es'=>SndL W F es' (wL B D es)→SndX W F (.call f es) (.Call (.Name (fnNm f) q) es' [] p) _) (a1 (a2 h)) fun e' r i=>.of (snd_call hF h2 h1 (ko.k1 f) h3 i.p i.r) (fun _=>rfl) (by constructor <;> intros <;> rfl)
 ·exact fun j es ih F e hF h=>eCall_el h fun g es' kw p h=>by
   refine nil_el (P:=fun kw=>SndX W F (.callV j es) (.Call g es' kw p) _) (a1 (a1 h)) (vr_el (P:=fun g=>SndX W F (.callV j es) (.Call g es' [] p) _) (a2 (a1 h)) fun x q h1 h2=>?_)
   have i:=ih hF (a2 (a2 h))
   revert i
   exact ne_el (P:=fun es'=>SndL W F es' (wL B D es)→SndX W F (.callV j es) (.Call (.Name x q) es' [] p) _) (a1 (a2 h)) fun e' r i=>.of (snd_callV hF ko.k1 h1 h2 i.p i.r) (fun _=>rfl) (by constructor <;> intros <;> rfl)
 ·exact fun pr mu es ih F e hF h=>eCall_el h fun g es' kw p h=>by
   refine nil_el (P:=fun kw=>SndX W F (.prim pr mu es) (.Call g es' kw p) _) (a1 (a1 h)) (gnm_el (P:=fun g=>SndX W F (.prim pr mu es) (.Call g es' [] p) _) (a2 (a1 h)) fun q h1=>?_)
   have h2:=a2 h
   cases hp : isiNm pr with
   | none=>
    rw [hp] at h2
    have i:=ih hF (a2 h2)
    revert i
    exact ne_el (P:=fun es'=>SndL W F es' (wL B D es)→SndX W F (.prim pr mu es) (.Call (.Name (primNm pr) q) es' [] p) _) (a1 h2) fun e' r i=>.of (snd_prim (mu:=mu) ko.bs h1 hp i.p i.r) (fun _=>rfl) (by constructor <;> intros <;> rfl)
   | some y=>
    rw [hp] at h2
    refine hdL_el (P:=fun es'=>SndX W F (.prim pr mu es) (.Call (.Name (primNm pr) q) es' [] p) _) h2 fun e1 r h2=>l1_el (P:=fun r=>SndX W F (.prim pr mu es) (.Call (.Name (primNm pr) q) (e1 :: r) [] p) _) h2 fun z h2=>gnm_el (P:=fun z=>SndX W F (.prim pr mu es) (.Call (.Name (primNm pr) q) [e1,z] [] p) _) (a1 h2) fun q2 h3=>?_
    have i:=ih hF (a2 h2)
    refine E12 (i.one e1 rfl) fun w ew hw=>?_
    have key : wX B D (.prim pr mu es)=.of fun Γ σ E K=>wRow (wL B D es) Γ σ E fun vs σ=>Ok (primV pr mu σ vs) K:=rfl
    rw [key,ew]
    exact .of (snd_isi (mu:=mu) ko.bs h1 hp h3 (i.p e1 (.head _)) hw) (fun _=>rfl) (by constructor <;> intros <;> rfl)
 ·exact fun m o es iho ih F e hF h=>eCall_el h fun g es' kw p h=>by
   refine nil_el (P:=fun kw=>SndX W F (.mth m o es) (.Call g es' kw p) _) (a1 (a1 h)) (mChk_el (P:=fun g=>SndX W F (.mth m o es) (.Call g es' [] p) _) (a2 (a1 h)) fun o' ap h1 h2=>?_)
   have i:=ih hF (a2 (a2 h))
   have j:=iho hF h2
   have hl:=a1 (a2 h)
   cases es' with
   | nil=>
    have e0 : es=[]:=by cases es with
     | nil=>rfl
     | cons=>exact absurd i.l (fun h=>nomatch h)
    subst e0
    exact .of (snd_mth0 (m:=m) j.y.ab h1 j.v) (fun _=>rfl) (by constructor <;> intros <;> rfl)
   | cons e' r=>exact .of (snd_mth (m:=m) j.y.ab h1 i.p hl j.v i.r) (fun _=>rfl) (by constructor <;> intros <;> rfl)
 ·exact fun f o es iho ih F e hF h=>eCall_el h fun g es' kw p h=>by
   refine nil_el (P:=fun kw=>SndX W F (.wm f o es) (.Call g es' kw p) _) (a1 (a1 h)) (mChk_el (P:=fun g=>SndX W F (.wm f o es) (.Call g es' [] p) _) (a2 (a1 h)) fun o' ap h1 h2=>?_)
   have i:=ih hF (a2 (a2 h))
   have j:=iho hF h2
   have hl:=a1 (a1 (a2 h))
   have hw:=a2 (a1 (a2 h))
   cases es' with
   | nil=>
    have e0 : es=[]:=by cases es with
     | nil=>rfl
     | cons=>exact absurd i.l (fun h=>nomatch h)
    subst e0
    exact .of (snd_wm0 ko.w hF hw j.y.ab h1 j.v) (fun _=>rfl) (by constructor <;> intros <;> rfl)
   | cons e' r=>exact .of (snd_wm ko.w hF hw j.y.ab h1 i.p hl j.v i.r) (fun _=>rfl) (by constructor <;> intros <;> rfl)
 ·exact fun o ih F e hF h=>eAttr_el h fun o' x p h=>str_el (P:=fun x=>SndX W F (.rows o) (.Attribute o' x p) _) (a1 h) (.of (snd_rows ko.w (ih hF (a2 h)).y.ab (ih hF (a2 h)).v) (fun _=>rfl) (by constructor <;> intros <;> rfl))
 ·exact fun o ih F e hF h=>eAttr_el h fun o' x p h=>str_el (P:=fun x=>SndX W F (.wat o) (.Attribute o' x p) _) (a1 h) (.of (snd_wat ko.w (ih hF (a2 h)).y.ab (ih hF (a2 h)).v) (fun _=>rfl) (by constructor <;> intros <;> rfl))
 ·exact fun a ih F e hF h=>eCall_el h fun g es' kw p h=>nil_el (P:=fun kw=>SndX W F (.mkW a) (.Call g es' kw p) _) (a1 (a1 h)) (gnm_el (P:=fun g=>SndX W F (.mkW a) (.Call g es' [] p) _) (a2 (a1 h)) fun q h1=>l1_el (P:=fun es'=>SndX W F (.mkW a) (.Call (.Name "Words" q) es' [] p) _) (a2 h) fun e' h2=>
   .of (snd_mkW ko.iw ko.bs ko.wn ko.wk h1 (ih hF h2).y.st (ih hF h2).v) (fun _=>rfl) (by constructor <;> intros <;> rfl))
 ·exact fun i F e hF h=>eCall_el h fun g es' kw p h=>nil_el (P:=fun kw=>SndX W F (.pop i) (.Call g es' kw p) _) (a1 (a1 h)) (nil_el (P:=fun es'=>SndX W F (.pop i) (.Call g es' [] p) _) (a2 (a1 h)) (mChk_el (P:=fun g=>SndX W F (.pop i) (.Call g [] [] p) _) (a2 h) fun o ap h1 h2=>vr_el (P:=fun o=>SndX W F (.pop i) (.Call (.Attribute o "pop" ap) [] [] p) _) h2 fun x q h3 h4=>
   .of (snd_pop h3 h4 h1) (fun _=>rfl) (by constructor <;> intros <;> rfl)))
 ·exact fun mu elt ts it ihe ihi F e hF h=>eLC_el h fun elt' gs scope p h=>l1_el (P:=fun gs=>SndX W F (.comp mu elt ts it) (.ListComp elt' gs scope p) _) h fun g h=>by
   obtain ⟨t,iter,ifs,as⟩:=g
   have h1 : as=0:=of_decide_eq_true (a2 (a1 (a1 h)))
   subst h1
   have h2 : ifs=[]:=List.isEmpty_iff.mp (a1 (a1 (a1 h)))
   subst h2
   have i:=ihi hF (a1 (a2 h))
   exact .of (fun {C Γ} S KE K h' Q E hQ hE=>snd_comp hB (comp_ok (a2 (a1 h)) (fun F2 e1 e2 e3=>⟨(ihe (e1 ▸ hF) (by rw [e2,e3]; exact a2 (a2 h))).v,ts_nil⟩) C) i.y.fo i.v S h' hQ hE) (fun _=>rfl) ⟨fun _=>rfl,fun _ _=>rfl,fun _ _=>rfl,fun _=>rfl,fun h=>(nomatch h),fun _ _ _ _=>rfl⟩
 ·exact fun elt ts it tt ihe ihi iht F e hF h=>eLC_el h fun elt' gs scope p h=>l1_el (P:=fun gs=>SndX W F (.compIf elt ts it tt) (.ListComp elt' gs scope p) _) h fun g h=>by
   obtain ⟨t,iter,ifs,as⟩:=g
   have h1 : as=0:=of_decide_eq_true (a2 (a1 (a1 h)))
   subst h1
   have h2:=a1 (a1 (a1 h))
   have h3:=a2 h
   have h4:=a2 (a1 h)
   clear h
   refine l1_el (P:=fun ifs=>SndX W F (.compIf elt ts it tt) (.ListComp elt' [⟨t,iter,ifs,0⟩] scope p) _) h2 fun c h2=>?_
   have i:=ihi hF (a1 h3)
   exact .of (fun {C Γ} S KE K h' Q E hQ hE=>snd_comp hB (comp_ok h4 (fun F2 e1 e2 e3=>⟨(ihe (e1 ▸ hF) (by rw [e2,e3]; exact a2 h3)).v,ts_one (iht (e1 ▸ hF) (by rw [e2,e3]; exact h2)).t⟩) C) i.y.fo i.v S h' hQ hE) (fun _=>rfl) ⟨fun _=>rfl,fun _ _=>rfl,fun _ _=>rfl,fun _=>rfl,fun h=>(nomatch h),fun _ _ _ _=>rfl⟩
 ·exact fun kvs F e hF h=>eDct_el h fun a b p h=>.of (snd_dct (a1 h) (a1 (a2 h)) (a2 (a2 h))) (fun _=>rfl) (by constructor <;> intros <;> rfl)
 ·exact fun {F e} hF h=>eCall_el h fun g es kw p h=>eAttr_el (P:=fun g=>SndX W F .bad (.Call g es kw p) _) h fun o x ap _=>.of snd_bad (fun _=>rfl) (by constructor <;> intros <;> rfl)
 ·exact fun {F es} hF h=>nil_el (P:=fun es=>SndL W F es _) h sndL_nil
 ·exact fun x xs ih1 ih2 F es hF h=>hdL_el (P:=fun es=>SndL W F es _) h fun e r h=>sndL_cons (ih1 hF (a1 h)) (ih2 hF (a2 h))
end
end Mine
namespace Mine
open PySem PySem.W PySem.Calls PyProof.Rows
noncomputable def nmChk (ks : Ks) (vs : Vars) (i : Nat) (x : Str) : Bool:=ks x == some .local && vs.lookup x == some i
noncomputable def isCmp (x : X) : Bool:=x.ctorIdx == 26
theorem isCmp_of {a : X} (h : isCmp a=true) : ∃ mu elt ts it,a=.comp mu elt ts it:=by
 cases a <;> first | exact ⟨_,_,_,_,rfl⟩ | cases h
mutual
noncomputable def chkS (K : Frag) : S→Ks→Vars→Stmt→Bool
 | .ex a,ks,vs,st=>sExpr (fun e=>!isComp a && chkE K a ks vs e) st
 | .app i a,ks,vs,st=>sExpr (eCall fun g es kw p=>(kw.isEmpty && mChk "append" (eName fun x=>vs.lookup x == some i && nd x) p g) && l1 (chkE K a ks vs) es) st
 | .ext i a,ks,vs,st=>sExpr (eCall fun g es kw p=>(kw.isEmpty && mChk "extend" (eName fun x=>vs.lookup x == some i && nd x) p g) && l1 (chkE K a ks vs) es) st
 | .asg i a,ks,vs,st=>sAsg (fun ts e=>chkE K a ks vs e && l1 (eName2 fun x p=>nmChk ks vs i x && (!isComp a || (isCmp a && eLC (fun _ gs scope pos=>asgCompOk scope x p pos) e))) ts) st
 | .asgT is a,ks,vs,st=>sAsg (fun ts e=>(chkE K a ks vs e && (!isComp a && !isTup a)) && l1 (eTup fun es=>tgtsOk ks vs es is) ts) st
 | .asgP is as,ks,vs,st=>sAsg (fun ts e=>l1 (eTup fun ts=>eTup (fun es=>((tgtsOk ks vs ts is && oneLine ts) && (decide ((nmsOf ts).eraseDups.length=(nmsOf ts).length) && nodupB is)) && ((decide (is.length≤100) && (swapChk ts es).isSome) && chkEs K as ks vs es)) e) ts) st
 | .aug i a,ks,vs,st=>sAug (fun x o e=>(decide (o=.Add) && eName (nmChk ks vs i) x) && chkE K a ks vs e) st
 | .augA o b,ks,vs,st=>sAug (fun x q e=>(decide (q=.Add) && eAttr (fun o' y _=>y == ("at" : Str) && chkE K o ks vs o') x) && eConst (cI b) e) st
 | .setI o i a,ks,vs,st=>sAsg (fun ts e=>(!isComp a && chkE K a ks vs e) && l1 (eSub fun eo ei=>chkE K o ks vs eo && chkE K i ks vs ei) ts) st
 | .if_ t a b,ks,vs,st=>sIf (fun e a' b'=>chkE K t ks vs e && (chkSs K a ks vs a' && chkSs K b ks vs b')) st
 | .while_ t b,ks,vs,st=>sWhl (fun e b' o=>o.isEmpty && (chkE K t ks vs e && chkSs K b ks vs b')) st
 | .for_ ts it b,ks,vs,st=>sFor (fun t e b' o=>(o.isEmpty && bindOk ks vs t ts) && (chkE K it ks vs e && chkSs K b ks vs b')) st
 | .ret _ a,ks,vs,st=>sRet (o1 fun e=>chkE K a ks vs e) st
 | .brk,_,_,st=>sBrk st
 | .raise a b,ks,vs,st=>sRse (fun x c=>oN c && o1 (eCall fun g es kw _=>(kw.isEmpty && eName (fun x=>x == ("GrammarFault" : Str) && gi ks x) g) && l2 (fun e1 e2=>chkE K a ks vs e1 && chkE K b ks vs e2) es) x) st
 | .tryA i a d,ks,vs,st=>sTry (fun b hs oe fb=>((oe.isEmpty && fb.isEmpty) && l1 (hdlr fun y nm r=>(oN nm && o1 (eName fun x=>x == ("GrammarFault" : Str) && gi ks x) y) && l1 (sRet (o1 (eConst fun c=>constOk c d))) r) hs) && (!isComp a && l1 (sAsg fun ts e=>l1 (eName (nmChk ks vs i)) ts && chkE K a ks vs e) b)) st
 | .bad,_,_,_=>true
noncomputable def chkSs (K : Frag) : List S→Ks→Vars→List Stmt→Bool
 | [],_,_,l=>l.isEmpty
 | s :: r,ks,vs,l=>hdL (fun x l=>chkS K s ks vs x && chkSs K r ks vs l) l
end
section
variable {W : Wo} {B : Prop→Prop} {D : Fn→List V→Store→Ke→Kv→Prop}
variable (W B D) in
noncomputable def PS (s : S) : Prop:=∀ {F : Fx} {st : Stmt},SndF W F.n D→Inj F.vs→chkS W.K s F.env.kindOf F.vs st=true→SndS W F st (wS B D s)
variable (W B D) in
noncomputable def PSs (s : List S) : Prop:=∀ {F : Fx} {st : List Stmt},SndF W F.n D→Inj F.vs→chkSs W.K s F.env.kindOf F.vs st=true→SndSs W F st (wSs B D s)
theorem nm_of {F : Fx} {x : Str} {i : Nat} (h : nmChk F.env.kindOf F.vs i x=true) : Nm F x i:=⟨eq_of_beq (a1 h),eq_of_beq (a2 h)⟩
theorem pl_all (ko : KOk W.K) (hB : ∀ P,B P→P) : ∀ xs,PL W B D xs:=fun xs=>by
 induction xs with
 | nil=>exact fun {F es} hF h=>nil_el (P:=fun es=>SndL W F es _) h sndL_nil
 | cons x xs ih=>exact fun {F es} hF h=>hdL_el (P:=fun es=>SndL W F es _) h fun e r h=>sndL_cons (px_all ko hB x hF (a1 h)) (ih hF (a2 h))
theorem ps_asgC (ko : KOk W.K) (hB : ∀ P,B P→P) {F : Fx} {e : PySem.Expr} {y : Str} {i : Nat} {py spos : Pos} {mu : Bool} {elt it : X} {ts : List Nat} (hF : SndF W F.n D) (hj : Inj F.vs) (nm : Nm F y i) (h : chkE W.K (.comp mu elt ts it) F.env.kindOf F.vs e=true) (hs : eLC (fun _ gs scope pos=>asgCompOk scope y py pos) e=true) :
  SndS W F (.Assign [.Name y py] e spos) (wS B D (.asg i (.comp mu elt ts it))):=by
 revert hs
 refine eLC_el (P:=fun e=>eLC (fun _ gs scope pos=>asgCompOk scope y py pos) e=true→SndS W F (.Assign [.Name y py] e spos) (wS B D (.asg i (.comp mu elt ts it)))) h fun elt' gs scope p h hs=>?_
 have hs : asgCompOk scope y py p=true:=hs
 refine @l1_el _ _ (fun gs=>SndS W F (.Assign [.Name y py] (.ListComp elt' gs scope p) spos) (wS B D (.asg i (.comp mu elt ts it)))) _ h fun g h=>?_
 obtain ⟨t,iter,ifs,as⟩:=g
 have h1 : as=0:=of_decide_eq_true (a2 (a1 (a1 h)))
 subst h1
 have h2 : ifs=[]:=List.isEmpty_iff.mp (a1 (a1 (a1 h)))
 subst h2
 have i:=px_all ko hB it hF (a1 (a2 h))
 exact fun {C Γ} fs S N J h' Q E hQ hE=>s_asgComp hB hj nm hs (comp_ok (a2 (a1 h)) (fun F2 e1 e2 e3=>⟨(px_all ko hB elt (e1 ▸ hF) (by rw [e2,e3]; exact a2 (a2 h))).v,ts_nil⟩) C) i.y.fo i.v fs S h' hQ hE
theorem ps_all (ko : KOk W.K) (hB : ∀ P,B P→P) : (∀ s,PS W B D s)∧∀ s,PSs W B D s:=by
 have px:=@px_all W B D ko hB
 have key : ∀ s,PS W B D s:=by
  refine S.rec (motive_1:=PS W B D) (motive_2:=PSs W B D) ?_ ?_ ?_ ?_ ?_ ?_ ?_ ?_ ?_ ?_ ?_ ?_ ?_ ?_ ?_ ?_ ?_ ?_ ?_
  ·exact fun a F st hF hj h=>sExpr_el h fun e p h=>s_ex ((px a hF (a2 h)).y.sw (nt (a1 h))) (px a hF (a2 h)).v
  ·exact fun i a F st hF hj h=>sExpr_el h fun e p h=>eCall_el (P:=fun e=>SndS W F (.Expr e p) _) h fun g es kw q h=>nil_el (P:=fun kw=>SndS W F (.Expr (.Call g es kw q) p) _) (a1 (a1 h)) (mChk_el (P:=fun g=>SndS W F (.Expr (.Call g es [] q) p) _) (a2 (a1 h)) fun o ap h1 h2=>
    vr_el (P:=fun o=>SndS W F (.Expr (.Call (.Attribute o "append" ap) es [] q) p) _) h2 fun x r h3 h4=>l1_el (P:=fun es=>SndS W F (.Expr (.Call (.Attribute (.Name x r) "append" ap) es [] q) p) _) (a2 h) fun e h5=>s_app h3 h4 h1 (px a hF h5).y.st (px a hF h5).v)
  ·exact fun i a F st hF hj h=>sExpr_el h fun e p h=>eCall_el (P:=fun e=>SndS W F (.Expr e p) _) h fun g es kw q h=>nil_el (P:=fun kw=>SndS W F (.Expr (.Call g es kw q) p) _) (a1 (a1 h)) (mChk_el (P:=fun g=>SndS W F (.Expr (.Call g es [] q) p) _) (a2 (a1 h)) fun o ap h1 h2=>
    vr_el (P:=fun o=>SndS W F (.Expr (.Call (.Attribute o "extend" ap) es [] q) p) _) h2 fun x r h3 h4=>l1_el (P:=fun es=>SndS W F (.Expr (.Call (.Attribute (.Name x r) "extend" ap) es [] q) p) _) (a2 h) fun e h5=>s_ext h3 h4 h1 (px a hF h5).y.st (px a hF h5).v)
  ·exact fun i a F st hF hj h=>sAsg_el h fun ts e p h=>l1_el (P:=fun ts=>SndS W F (.Assign ts e p) _) (a2 h) fun x h1=>eName2_el (P:=fun x=>SndS W F (.Assign [x] e p) _) h1 fun x q h1=>by
    cases hc : isComp a with
    | false=>exact s_asg hj (nm_of (a1 h1)) ((px a hF (a1 h)).y.sw hc) (px a hF (a1 h)).v
    | true=>
     have h2:=a2 h1
     rw [hc] at h2
     have h2 : (isCmp a && eLC (fun _ gs scope pos=>asgCompOk scope x q pos) e)=true:=h2
     obtain ⟨mu,elt,ts,it,rfl⟩:=isCmp_of (a1 h2)
     have z:=@ps_asgC W B D ko hB F e x i q p mu elt it ts hF hj (nm_of (a1 h1)) (a1 h) (a2 h2)
     exact @z
  ·exact fun is a F st hF hj h=>sAsg_el h fun ts e p h=>l1_el (P:=fun ts=>SndS W F (.Assign ts e p) _) (a2 h) fun x h1=>eTup_el (P:=fun x=>SndS W F (.Assign [x] e p) _) h1 fun es k q h1=>s_asgT hj h1 ((px a hF (a1 (a1 h))).y.sw (nt (a1 (a2 (a1 h))))) ((px a hF (a1 (a1 h))).y.tu (nt (a2 (a2 (a1 h))))) (px a hF (a1 (a1 h))).v
  ·exact fun is as F st hF hj h=>sAsg_el h fun ts e p h=>l1_el (P:=fun ts=>SndS W F (.Assign ts e p) _) h fun x h=>eTup_el (P:=fun x=>SndS W F (.Assign [x] e p) _) h fun ts k q h=>eTup_el (P:=fun e=>SndS W F (.Assign [.Tuple ts k q] e p) _) h fun es k2 q2 h=>
    E11 (Option.isSome_iff_exists.mp (a2 (a1 (a2 h)))) fun b hb=>s_asgP hj (a1 (a1 (a1 h))) (a2 (a1 (a1 h))) (of_decide_eq_true (a1 (a2 (a1 h)))) (nodup_of (a2 (a2 (a1 h)))) (of_decide_eq_true (a1 (a1 (a2 h)))) hb (pl_all ko hB as hF (a2 (a2 h))).r
  ·exact fun i a F st hF hj h=>sAug_el h fun x o e p h=>dec_el (P:=fun o=>SndS W F (.AugAssign x o e p) _) (a1 (a1 h)) (eName_el (P:=fun x=>SndS W F (.AugAssign x .Add e p) _) (a2 (a1 h)) fun x q h1=>s_aug hj (nm_of h1) (px a hF (a2 h)).v)
  ·exact fun o b F st hF hj h=>sAug_el h fun x q e p h=>dec_el (P:=fun q=>SndS W F (.AugAssign x q e p) _) (a1 (a1 h)) (eAttr_el (P:=fun x=>SndS W F (.AugAssign x .Add e p) _) (a2 (a1 h)) fun o' y ap h1=>str_el (P:=fun y=>SndS W F (.AugAssign (.Attribute o' y ap) .Add e p) _) (a1 h1)
    (eConst_el (P:=fun e=>SndS W F (.AugAssign (.Attribute o' "at" ap) .Add e p) _) (a2 h) fun c k r h2=>cI_el (P:=fun c=>SndS W F (.AugAssign (.Attribute o' "at" ap) .Add (.Constant c k r) p) _) h2 (s_augA ko.w ko.at_ (px o hF (a2 h1)).v)))
  ·exact fun o i a F st hF hj h=>sAsg_el h fun ts e p h=>l1_el (P:=fun ts=>SndS W F (.Assign ts e p) _) (a2 h) fun x h1=>eSub_el (P:=fun x=>SndS W F (.Assign [x] e p) _) h1 fun eo ei q h1=>s_setI ((px a hF (a2 (a1 h))).y.sw (nt (a1 (a1 h)))) (px a hF (a2 (a1 h))).v (px o hF (a1 h1)).v (px i hF (a2 h1)).v
  ·exact fun t a b iha ihb F st hF hj h=>sIf_el h fun e a' b' p h=>s_if (px t hF (a1 h)).t (iha hF hj (a1 (a2 h))) (ihb hF hj (a2 (a2 h)))
  ·exact fun t b ih F st hF hj h=>sWhl_el h fun e b' o p h=>nil_el (P:=fun o=>SndS W F (.While e b' o p) _) (a1 h) (s_while hB (px t hF (a1 (a2 h))).t (ih hF hj (a2 (a2 h))))
  ·exact fun ts it b ih F st hF hj h=>sFor_el h fun t e b' o p h=>nil_el (P:=fun o=>SndS W F (.For t e b' o p) _) (a1 (a1 h)) (s_for hB hj (a2 (a1 h)) (px it hF (a1 (a2 h))).y.fo (px it hF (a1 (a2 h))).v (ih hF hj (a2 (a2 h))))
  ·exact fun kp a F st hF hj h=>sRet_el h fun e p h=>o1_el (P:=fun e=>SndS W F (.Return e p) _) h fun e h=>s_ret (px a hF h).v
  ·exact fun {F st} hF hj h=>sBrk_el h fun p=>s_brk
  ·exact fun a b F st hF hj h=>sRse_el h fun x c p h=>oN_el (P:=fun c=>SndS W F (.Raise x c p) _) (a1 h) (o1_el (P:=fun x=>SndS W F (.Raise x none p) _) (a2 h) fun x h=>eCall_el (P:=fun x=>SndS W F (.Raise (some x) none p) _) h fun g es kw q h=>nil_el (P:=fun kw=>SndS W F (.Raise (some (.Call g es kw q)) none p) _) (a1 (a1 h))
    (gnm_el (P:=fun g=>SndS W F (.Raise (some (.Call g es [] q)) none p) _) (a2 (a1 h)) fun r h1=>hdL_el (P:=fun es=>SndS W F (.Raise (some (.Call (.Name "GrammarFault" r) es [] q)) none p) _) (a2 h) fun e1 l h=>l1_el (P:=fun l=>SndS W F (.Raise (some (.Call (.Name "GrammarFault" r) (e1 :: l) [] q)) none p) _) h fun e2 h=>
     s_raise ko.ra h1 (px a hF (a1 h)).y.st (px b hF (a2 h)).y.st (px a hF (a1 h)).v (px b hF (a2 h)).v))
  ·exact fun i a d F st hF hj h=>sTry_el h fun b hs oe fb p h=>nil_el (P:=fun oe=>SndS W F (.Try b hs oe fb p) _) (a1 (a1 (a1 h))) (nil_el (P:=fun fb=>SndS W F (.Try b hs [] fb p) _) (a2 (a1 (a1 h))) (l1_el (P:=fun hs=>SndS W F (.Try b hs [] [] p) _) (a2 (a1 h)) fun y h1=>l1_el (P:=fun b=>SndS W F (.Try b [y] [] [] p) _) (a2 (a2 h)) fun s h2=>
    sAsg_el (P:=fun s=>SndS W F (.Try [s] [y] [] [] p) _) h2 fun ts e q h2=>l1_el (P:=fun ts=>SndS W F (.Try [.Assign ts e q] [y] [] [] p) _) (a1 h2) fun x h3=>eName_el (P:=fun x=>SndS W F (.Try [.Assign [x] e q] [y] [] [] p) _) h3 fun x q2 h3=>
    hdlr_el (P:=fun y=>SndS W F (.Try [.Assign [.Name x q2] e q] [y] [] [] p) _) h1 fun y nm r hp h1=>oN_el (P:=fun nm=>SndS W F (.Try [.Assign [.Name x q2] e q] [.ExceptHandler y nm r hp] [] [] p) _) (a1 (a1 h1)) (o1_el (P:=fun y=>SndS W F (.Try [.Assign [.Name x q2] e q] [.ExceptHandler y none r hp] [] [] p) _) (a2 (a1 h1)) fun y h4=>
    gnm_el (P:=fun y=>SndS W F (.Try [.Assign [.Name x q2] e q] [.ExceptHandler (some y) none r hp] [] [] p) _) h4 fun q3 h4=>l1_el (P:=fun r=>SndS W F (.Try [.Assign [.Name x q2] e q] [.ExceptHandler (some (.Name "GrammarFault" q3)) none r hp] [] [] p) _) (a2 h1) fun r h5=>
    sRet_el (P:=fun r=>SndS W F (.Try [.Assign [.Name x q2] e q] [.ExceptHandler (some (.Name "GrammarFault" q3)) none [r] hp] [] [] p) _) h5 fun r q4 h5=>o1_el (P:=fun r=>SndS W F (.Try [.Assign [.Name x q2] e q] [.ExceptHandler (some (.Name "GrammarFault" q3)) none [.Return r q4] hp] [] [] p) _) h5 fun r h5=>
    eConst_el (P:=fun r=>SndS W F (.Try [.Assign [.Name x q2] e q] [.ExceptHandler (some (.Name "GrammarFault" q3)) none [.Return (some r) q4] hp] [] [] p) _) h5 fun c k q5 h5=>s_try ko.ex h4 h5 hj (nm_of h3) ((px a hF (a2 h2)).y.sw (nt (a1 (a2 h)))) (px a hF (a2 h2)).v)))
  ·exact fun {F st} hF hj h {C Γ} fs S N J h=>h.elim
  ·exact fun {F st} hF hj h=>nil_el (P:=fun st=>SndSs W F st _) h ss_nil
  ·exact fun s r ih1 ih2 F st hF hj h=>hdL_el (P:=fun st=>SndSs W F st _) h fun x l h=>ss_cons (ih1 hF hj (a1 h)) (ih2 hF hj (a2 h))
 refine ⟨key,fun s=>?_⟩
 induction s with
 | nil=>exact fun {F st} hF hj h=>nil_el (P:=fun st=>SndSs W F st _) h ss_nil
 | cons s r ih=>exact fun {F st} hF hj h=>hdL_el (P:=fun st=>SndSs W F st _) h fun x l h=>ss_cons (key s hF hj (a1 h)) (ih hF hj (a2 h))
end
end Mine
namespace Mine
open PySem PySem.W PySem.Calls PyProof.Rows
noncomputable def nsOf (fd : FuncData) : List Str:=(fd.params.args.map (·.arg)) ++ (fd.scope.names.filterMap fun p=>if p.2 == .local && !((fd.params.args.map (·.arg)).contains p.1) then some p.1 else none)
noncomputable def chkD (K : Frag) (ds : List D) (n : Nat) (v : Value) : Bool:=(ds.isEmpty && v == .none) || l1 (fun dd=>decide (1≤n) && vRef (fun T=>oSq (fun _ items=>l1 (repOk K dd) items.toList) (K.lookup T)) v) ds
noncomputable def chkFd (K : Frag) (f : Fn) (fd : FuncData) (body : List Stmt) (ns : List Str) : Bool:=(((codeIn K fd.code fd.qualname && fd.closure.isEmpty) && (fd.globals == mainGlobals && fd.builtins == builtinsNs)) && ((fd.scope.kind == .function && (!fd.scope.isCoroutine && !fd.scope.isGenerator)) && (fd.scope.names.all (fun p=>p.2 != .free) && plainParams fd.params))) &&
 (((decide ns.Nodup && fd.params.args.map (·.arg) == ns.take (F f).params) && (decide ((F f).params≤ns.length) && (fd.params.args.map (·.arg)).all fun x=>fd.scope.names.lookup x == some .local || fd.scope.names.lookup x == some .cell)) &&
  (chkD K (F f).dflts (F f).params fd.defaults && chkSs K (F f).body (fun x=>fd.scope.names.lookup x) ns.zipIdx body))
noncomputable def chkFn (K : Frag) (f : Fn) : Bool:=o1 (fun o=>dFn (fun fd=>bSt (fun body=>chkFd K f fd body (nsOf fd)) fd.body) o.data) (K.lookup (fa K f))
theorem chkD_el {K : Frag} {ds : List D} {n : Nat} {v : Value} (h : chkD K ds n v=true) : (ds=[]∧v=.none)∨∃ T o d k dd,v=.ref T∧K.lookup T=some o∧o.data=.seq #[d] k∧repOk K dd d=true∧ds=[dd]∧1≤n:=by
 rcases Bool.or_eq_true_iff.mp h with h | h
 ·exact .inl ⟨List.isEmpty_iff.mp (a1 h),eq_of_beq (a2 h)⟩
 ·refine .inr (l1_el (P:=fun ds=>∃ T o d k dd,v=.ref T∧K.lookup T=some o∧o.data=.seq #[d] k∧repOk K dd d=true∧ds=[dd]∧1≤n) h fun dd h=>?_)
  refine vRef_el (T:=fun v=>∃ T o d k dd',v=.ref T∧K.lookup T=some o∧o.data=.seq #[d] k∧repOk K dd' d=true∧[dd]=[dd']∧1≤n) (a2 h) fun T h2=>?_
  refine oSq_el h2 fun o items k e1 e2 h2=>?_
  obtain ⟨l⟩:=items
  have h2 : l1 (repOk K dd) l=true:=h2
  revert e2
  exact l1_el (P:=fun l=>o.data=.seq ⟨l⟩ k→_) h2 fun d h2 e2=>⟨T,o,d,k,dd,rfl,e1,e2,h2,rfl,of_decide_eq_true (a1 h)⟩
theorem fnOk_of {K : Frag} {f : Fn} (h : chkFn K f=true) : ∃ fd body ns,FnOk K f fd body ns∧chkSs K (F f).body (fun x=>fd.scope.names.lookup x) ns.zipIdx body=true:=by
 unfold chkFn at h
 cases hl : K.lookup (fa K f) with
 | none=>rw [hl] at h; cases h
 | some o=>
  rw [hl] at h
  refine (dFn_el (P:=fun d=>∃ fd,d=.func fd∧bSt (fun body=>chkFd K f fd body (nsOf fd)) fd.body=true) h fun a h=>⟨a,rfl,h⟩).elim fun fd h=>E12 (bSt_inv h.2) fun body hb hc=>⟨fd,body,nsOf fd,⟨⟨o,hl,h.1⟩,hb,a1 (a1 (a1 (a1 hc))),List.isEmpty_iff.mp (a2 (a1 (a1 (a1 hc)))),eq_of_beq (a1 (a2 (a1 (a1 hc)))),eq_of_beq (a2 (a2 (a1 (a1 hc)))),fun x q=>?_,eq_of_beq (a1 (a1 (a2 (a1 hc)))),nt (a1 (a2 (a1 (a2 (a1 hc))))),nt (a2 (a2 (a1 (a2 (a1 hc))))),a2 (a2 (a2 (a1 hc))),
   of_decide_eq_true (a1 (a1 (a1 (a2 hc)))),eq_of_beq (a2 (a1 (a1 (a2 hc)))),of_decide_eq_true (a1 (a2 (a1 (a2 hc)))),fun x hx=>?_,chkD_el (a1 (a2 (a2 hc)))⟩,a2 (a2 (a2 hc))⟩
  ·exact Bool.noConfusion (List.all_eq_true.mp (a1 (a2 (a2 (a1 hc)))) _ (mem_of_lookup q))
  ·exact (Bool.or_eq_true_iff.mp (List.all_eq_true.mp (a2 (a2 (a1 (a2 hc)))) x hx)).imp eq_of_beq eq_of_beq
theorem inj_zipIdx (ns : List Str) : Inj ns.zipIdx:=fun x y i hx hy=>Option.some.inj ((zipIdx_at hx).2.symm.trans (zipIdx_at hy).2)
section
variable {W : Wo}
theorem body_snd (ko : KOk W.K) {B : Prop→Prop} {D : Fn→List V→Store→Ke→Kv→Prop} (hB : ∀ P,B P→P) {n : Nat} (hF : SndF W n D) {f : Fn} {fd : FuncData} {body : List Stmt} {ns : List Str} (hc : chkSs W.K (F f).body (fun x=>fd.scope.names.lookup x) ns.zipIdx body=true) :
  ∀ env : Env,env.scope=fd.scope→SndSs W ⟨n,env,ns.zipIdx⟩ body (wSs B D (F f).body):=fun env e=>(ps_all ko hB).2 _ (F:=⟨n,env,ns.zipIdx⟩) hF (inj_zipIdx ns) (by
 rw [show env.kindOf=fun x=>fd.scope.names.lookup x from funext fun x=>congrArg (fun s=>s.names.lookup x) e]; exact hc)
theorem all_sound (ko : KOk W.K) (hch : ∀ f,chkFn W.K f=true) : ∀ n,SndF W n (ClE n)∧SndF W n (Cl n):=by
 have fin : ∀ n,SndF W n (ClE n)→SndF W n (ClR n)→SndF W n (ClE n)∧SndF W n (Cl n):=fun n h1 h2=>⟨h1,fun f F C Γ S hn cvs us KE K r h Q E hQ hE=>by
  cases h with
  | w h=>exact h2 f S hn r h hQ hE
  | e h=>exact h1 f S hn r h hQ hE⟩
 intro n
 induction n with
 | zero=>
  have e1 : ClE 0=fun _ _ _ _ _=>False:=by with_unfolding_all rfl
  have e2 : ClR 0=fun _ _ _ _ _=>False:=by with_unfolding_all rfl
  exact fin 0 (fun f F C Γ S hn cvs us KE K r h Q E hQ hE=>by rw [e1] at h; exact h.elim) (fun f F C Γ S hn cvs us KE K r h Q E hQ hE=>by rw [e2] at h; exact h.elim)
 | succ n ih=>
  refine fin (n + 1) (fun f F C Γ S hn cvs us KE K r h Q E hQ hE=>?_) (fun f F C Γ S hn cvs us KE K r h Q E hQ hE=>?_)
  ·rw [ClE_succ] at h
   exact E32 (fnOk_of (hch f)) fun fd body ns ok hc=>call_step ok (body_snd ko (fun _ h=>h) ih.1 hc) hn r h hQ hE
  ·rw [ClR_succ] at h
   exact E32 (fnOk_of (hch f)) fun fd body ns ok hc=>call_step ok (body_snd ko (fun _ h=>h.h) ih.2 hc) hn r h hQ hE
end
end Mine
namespace Mine
open PySem PySem.W PySem.Calls PyProof.Rows
section
variable {W : Wo} {A : Around} {s : Shared} {Q E : Value→Shared→Prop}
noncomputable def isYes : Kv:=fun v _=>v=.d (.bool true)
theorem zd_yes {I : Imm} {α : List Addr} {k : Bool} {v : V} {cv : Value} {σ : Store} {T : Prop} (h : Zd 0 isYes k v σ) (r : RepV W I α cv v) (q : cv=.bool true→T) : T:=by
 unfold Zd at h
 refine br_el h (fun _ h=>?_) fun _ h=>?_
 ·cases v with
  | l i=>exact nomatch (show V.l i=_ from h)
  | w i=>exact nomatch (show V.w i=_ from h)
  | _=>exact h.elim
 ·cases v with
  | d x=>
   have e : V.d x=.d (.bool true):=h
   cases e
   exact q r
  | l i=>exact br_el h (fun _ h=>nomatch (show V.l i=_ from h)) fun _ h=>ls_el h fun xs _ h=>nomatch (show V.d (.lst xs)=_ from h)
  | _=>exact h.elim
theorem call_top {B : Prop→Prop} {Df : Fn→List V→Store→Ke→Kv→Prop} {f : Fn} {fd : FuncData} {body : List Stmt} {ns : List Str} {n : Nat} (ok : FnOk W.K f fd body ns) (hbase : W.base=s.heap)
  (hb : ∀ env : Env,env.scope=fd.scope→SndSs W ⟨n,env,ns.zipIdx⟩ body (wSs B Df (Mine.F f).body)) (hd0 : (Mine.F f).dflts=[]) (hh : A.handled=none) (hdp : A.depth + 1 + n + 20 < recursionLimit) (hun : A.units + 3 + 8 * n + 400 < cLine) (hfr : A.frames=some [])
  {cvs : List Value} {us : List V} (rvs : RepVs W s.heap.get? [] cvs us) (h : ClF B Df f us [] No isYes)
  (hQ : ∀ h' tk,(∀ b o,s.heap.get? b=some o→h'.get? b=some o)→Q (.bool true) { s with heap:=h',toks:=tk }) : wpAny W.m A (call (.ref (fa W.K f)) cvs) Q E s:=by
 refine op_el h fun Γ1 hΓ h=>E12 ok.obj fun o hob hod=>bindV_inv hΓ fun h1 h2 eΓ=>?_
 have hk0 : ∀ b o,W.base.get? b=some o→s.heap.get? b=some o:=fun b o e=>hbase ▸ e
 rw [hd0] at h2 eΓ
 have hlen : us.length=(Mine.F f).params:=Nat.le_antisymm h1 h2
 have nd : (fd.params.args.map (·.arg)).Nodup:=by rw [ok.par]; exact ok.nd.sublist (List.take_sublist _ _)
 have hpl : fd.params.args.length=(Mine.F f).params:=by
  rw [← List.length_map (as:=fd.params.args) (f:=(·.arg)),ok.par,List.length_take]; exact Nat.min_eq_left ok.plen
 have hdn : fd.defaults=.none:=by
  rcases ok.dflt with h | ⟨_,_,_,_,_,_,_,_,_,h,_⟩
  ·exact h.2
  ·rw [hd0] at h; cases h
 have hbind : BindsTo s fd ⟨cvs,[]⟩ ((fd.params.args.map (·.arg)).zip cvs):=binds_of ok.pl nd (dv:=[]) (fun M A E Q hQ=>by rw [hdn]; exact wpAny_pure (hQ none rfl)) (.inl ⟨Nat.zero_le _,rvs.length.trans (hlen.trans hpl.symm),rfl⟩)
 refine wpAny_call (codeAny_call_function (fd:=fd) (by lia) (hk0 _ _ (W.kin _ _ hob)) hod ok.co ok.gen ok.body (codeRec_of (W.kin.keeps hk0) ok.code) (hbind _ _ _ _ ?_))
 rw [ok.clo]
 refine wpAny_newFunctionEnv_cells ok.kind (fun y hy=>(ok.pk y.1 (List.of_mem_zip hy).1).imp id fun hk=>⟨hk,cells_some hk⟩) fun env henv s' x=>?_
 have e1 : env.scope=fd.scope:=congrArg Env.scope henv
 have e2 : env.locals=s.heap.objs.size:=congrArg Env.locals henv
 have e3 : env.cells=cellsFrom (s.heap.objs.size + 1) fd.scope.names []:=congrArg Env.cells henv
 have e4 : env.frame=some s.heap.objs.size:=congrArg Env.frame henv
 have e5 : env.globals=mainGlobals:=(congrArg Env.globals henv).trans ok.glob
 have e6 : env.builtins=builtinsNs:=(congrArg Env.builtins henv).trans ok.bi
 rw [e2] at x
 have kp:=x.toInCall.keep
 refine ⟨W.nolimit.keeps fun b o e=>kp b o (hk0 b o e),codeAny_func ?_⟩
 have above : ∀ p∈env.cells,s.heap.objs.size < p.2:=fun p hp=>x.above p.1 p.2 hp
 have hcI : ∀ p∈env.cells,s.heap.get? p.2=none:=fun p hp=>Heap.get?_none_of_le (Nat.le_of_lt (above p hp))
 have fr1:=ok.frame (W:=W) (s0:=s) (α:=[]) (I:=s.heap.get?) e1 rfl e3 rfl rfl x hcI rvs hlen
 have hcl : ∀ y,env.kindOf y=some .cell∨env.kindOf y=some .free→(env.cells.lookup y).isSome=true:=fun y hy=>by
  rw [show env.kindOf y=fd.scope.names.lookup y from congrArg (fun s=>s.names.lookup y) e1] at hy
  exact hy.elim (fun hy=>by rw [e3]; exact cells_some hy) fun hy=>absurd hy (ok.nofree y)
 have X1 : St W ⟨withCells s.heap.get? env.cells s'.heap,[],bindL env.kindOf ((fd.params.args.map (·.arg)).zip cvs) fun _=>none⟩ [] s.heap.objs.size [] s'.heap:=
  ⟨⟨fun b o e=>withCells_el e (kp b o) fun _ _ e=>e,fun p hp=>by
   have hp : p=(s.heap.objs.size,_):=List.mem_singleton.mp hp
   subst hp
   exact ⟨withCells_none (get_size s.heap) fun p hp e=>Nat.lt_irrefl _ (e ▸ above p hp),x.toInCall.ns⟩,List.nodup_cons.mpr ⟨fun h=>(nomatch h),List.nodup_nil⟩⟩,fun i e q=>(nomatch q),rfl,hbase ▸ Nat.le_refl _,fun b o e=>withCells_le b o (hk0 b o e),fun i r a q=>(nomatch q)⟩
 let C' : Cx ⟨n,env,ns.zipIdx⟩:=⟨A.deeper env,[env],s.heap.objs.size,[],⟨hh,hdp,hun,by show A.frames.map (env :: ·)=_; rw [hfr]; rfl,fun e he=>by
  have he:=List.mem_singleton.mp he
  subst he
  exact ⟨by rw [e1,ok.kind]; decide,_,e4,.inl rfl⟩⟩,⟨e1 ▸ ok.kind,e2,e5,e6,hcl⟩⟩
 have eΓ2 : Γ1=(us.map some) ++ List.replicate ((Mine.F f).slots - (Mine.F f).params) none:=by
  rw [eΓ,List.drop_nil,List.map_nil]
  exact congrArg (fun l=>List.map some l ++ _) (List.append_nil us)
 rw [eΓ2] at h
 let S1 : Sx W C' ((us.map some) ++ List.replicate ((Mine.F f).slots - (Mine.F f).params) none):=⟨_,[],s',X1,fr1⟩
 have s1 : Sm s S1.s:=E21 x.toInCall.same fun h₁ tk₁ q=>by unfold Sm; rw [show S1.s=s' from rfl,q]
 refine hb env e1 ⟨⟨_,rfl⟩,e4⟩ S1 h ⟨fun {Γ'} S2 l2 h=>(nomatch (show V.d .none=V.d (.bool true) from h)),fun {Γ'} S2 l2 h=>h.elim,fun {Γ'} S2 k cv v l2 r h=>zd_yes h r fun ec=>?_⟩ fun {Γ'} S2 y l2 fl h=>h.elim
 have e7:=s1.trans l2.s
 have:=hQ S2.s.heap S2.s.toks fun b o e=>S2.X.inv.imm b o (S2.X.base b o (hbase ▸ e))
 unfold Sm at e7
 rw [← e7] at this
 exact ec ▸ this
theorem ints_rep {I : Imm} : ∀ {vs : List Value} {xs : List Int},IntsAre vs xs→RepDs I vs (xs.map .int)
 | _,_,.nil=>rfl
 | _,_,.cons n t r=>.cons (.int n t) (ints_rep r)
end
theorem law_walk {prog : Program} {w : World} {K : Frag} {mg mb : Str→Option Value} {s : Shared} {Q E : Value→Shared→Prop} {a b : Addr} {vs : List Value} {xs : List Int} (hP : Cl 601 .law [.d (.lst (xs.map .int))] [] No isYes)
  (kin : K.In s.heap) (g : s.heap.Ns mainGlobals mg) (bi : s.heap.Ns builtinsNs mb) (nolimit : s.heap.NoLimit) (nodigits : ∃ mc,s.heap.Ns cStatics mc∧mc "sys.int_max_str_digits"=none) (boot : ∀ x : Str,x ≠ "__name__"→mb x=bootBuiltins x)
  (ko : KOk K) (hch : ∀ f,chkFn K f=true)
  (hnm : nsIn K mainGlobals "law"=some (some (.ref (fa K .law)))) (hmg : mg "law"=some (.ref a)) (hl : s.heap.IsList b vs.toArray) (hi : IntsAre vs xs) (h63 : xs.length≤63)
  (hQ : ∀ h' tk,(∀ b o,s.heap.get? b=some o→h'.get? b=some o)→Q (.bool true) { s with heap:=h',toks:=tk }) : wpAny (model prog w) callerA (call (.ref a) [.ref b]) Q E s:=by
 have e:=mg_of kin g hnm
 rw [hmg] at e
 cases e
 obtain ⟨o,ho,hc,n,hd⟩:=hl
 let W : Wo:=⟨prog,w,K,s.heap,mg,mb,kin,g,bi,nolimit,nodigits,boot⟩
 have rv : RepVs W s.heap.get? [] [.ref b] [.d (.lst (xs.map .int))]:=RepVs.cons (xs:=[]) (.d (.lst ho hc hd (ints_rep hi) (by rw [List.length_map]; exact dr h63 rfl))) rfl
 refine E32 (fnOk_of (hch .law)) fun fd body ns ok hcs=>?_
 have sn:=all_sound (W:=W) ko hch 600
 cases hP with
 | w h=>exact call_top (W:=W) (B:=Bx) (Df:=Cl 600) ok rfl (body_snd (W:=W) (B:=Bx) ko (fun _ h=>h.h) sn.2 hcs) rfl rfl (by decide +kernel) (by decide +kernel) rfl rv (by rw [ClR_succ] at h; exact h) hQ
 | e h=>exact call_top (W:=W) (B:=id) (Df:=ClE 600) ok rfl (body_snd (W:=W) (B:=id) ko (fun _ h=>h) sn.1 hcs) rfl rfl (by decide +kernel) (by decide +kernel) rfl rv (by rw [ClE_succ] at h; exact h) hQ
end Mine
namespace Mine
inductive Tk where
 | nm (l : List Nat)
 | sg (l : List Nat)
 | rg (l : List Nat)
 | nb (x : List Nat) (v : Int) (u : D)
 | en
noncomputable def Tk.kd : Tk→List Nat
 | .nm _=>[110,97,109,101]
 | .sg _=>[115,105,103,110]
 | .rg _=>[114,101,103,105,111,110]
 | .nb _ _ _=>[105,110,116]
 | .en=>[101,110,100]
noncomputable def Tk.tx : Tk→List Nat
 | .nm l=>l
 | .sg l=>l
 | .rg l=>l
 | .nb l _ _=>l
 | .en=>[]
noncomputable def Tk.va : Tk→D
 | .nb _ v _=>.int v
 | _=>.none
noncomputable def Tk.su : Tk→D
 | .nb _ _ u=>u
 | _=>.none
noncomputable def rowD (t : Tk) (s : Int) : D:=.tup [.str t.kd,.str t.tx,.int s,t.va,t.su]
inductive Grp : List Tk→List D→Prop
 | en (s : Int) : Grp [.en] [rowD .en s]
 | one {t : Tk} (s : Int) {ts : List Tk} {rs : List D} : t ≠ .en→Grp ts rs→Grp (t :: ts) (rowD t s :: rs)
 | gt (s : Int) {ts : List Tk} {rs : List D} : Grp ts rs→Grp (.sg [62] :: .sg [62] :: ts) (rowD (.sg [62,62]) s :: rs)
 | am (s : Int) {ts : List Tk} {rs : List D} : Grp ts rs→Grp (.sg [38] :: .sg [38] :: ts) (rowD (.sg [38,38]) s :: rs)
noncomputable def Wst (σ : Store) (j : Nat) (ts : List Tk) : Prop:=∃ (rows : List D) (k : Nat),σ[j + 1]?=some (.wd j k)∧σ[j]?=some (.lst rows)∧Grp ts (rows.drop k)
structure UpdW (j : Nat) (σ τ : Store) : Prop where
 len : τ.length=σ.length
 oth : ∀ i,i ≠ j→i ≠ j + 1→τ[i]?=σ[i]?
theorem UpdW.refl (j : Nat) (σ : Store) : UpdW j σ σ:=⟨rfl,fun _ _ _=>rfl⟩
theorem UpdW.trans {j : Nat} {σ τ υ : Store} (a : UpdW j σ τ) (b : UpdW j τ υ) : UpdW j σ υ:=⟨b.len.trans a.len,fun i h k=>(b.oth i h k).trans (a.oth i h k)⟩
theorem UpdW.get {j i : Nat} {σ τ : Store} {e : Ent} (u : UpdW j σ τ) (h : σ[i]?=some e) (n : i ≠ j) (n2 : i ≠ j + 1) : τ[i]?=some e:=(u.oth i n n2).trans h
noncomputable def Hd (t t' : Tk) : Prop:=t'=t∨t=.sg [62]∧t'=.sg [62,62]∨t=.sg [38]∧t'=.sg [38,38]
noncomputable def lk : Tk→List Nat→Bool
 | .nm l,x=>l == x
 | .sg l,x=>l == x
 | _,_=>false
noncomputable def twins : List (List Nat):=[[62],[62,62],[38],[38,38]]
noncomputable def clB : Tk→Bool
 | .sg l=>l.take 1 == [62]
 | _=>false
theorem Hd.lk {t t' : Tk} (h : Hd t t') {x : List Nat} (hx : twins.contains x=false) : lk t' x=lk t x:=by
 rcases h with rfl | ⟨rfl,rfl⟩ | ⟨rfl,rfl⟩
 ·rfl
 ·unfold twins at hx; simp only [List.contains_cons,Bool.or_eq_false_iff] at hx; exact (by show ([62,62] == x)=([62] == x); rw [BEq.comm,hx.2.1,BEq.comm,hx.1])
 ·unfold twins at hx; simp only [List.contains_cons,Bool.or_eq_false_iff] at hx; exact (by show ([38,38] == x)=([38] == x); rw [BEq.comm,hx.2.2.2.1,BEq.comm,hx.2.2.1])
theorem Hd.cl {t t' : Tk} (h : Hd t t') : clB t'=clB t:=by
 rcases h with rfl | ⟨rfl,rfl⟩ | ⟨rfl,rfl⟩ <;> rfl
theorem Hd.kd {t t' : Tk} (h : Hd t t') : t'.kd=t.kd:=by
 rcases h with rfl | ⟨rfl,rfl⟩ | ⟨rfl,rfl⟩ <;> rfl
noncomputable def soleB : Tk→Bool
 | .sg l=>!(l == [62]) && !(l == [38])
 | _=>true
noncomputable def isEn : Tk→Bool
 | .en=>true
 | _=>false
theorem Hd.sole {t t' : Tk} (h : Hd t t') (k : soleB t=true) : t'=t:=by
 rcases h with h | ⟨rfl,_⟩ | ⟨rfl,_⟩
 ·exact h
 ·cases k
 ·cases k
section
variable {n : Nat} {σ : Store} {j : Nat} {t t2 : Tk} {ts : List Tk} {E : Ke} {Q : Kv}
theorem Grp.head {rs : List D} {T : Prop} (h : Grp (t :: ts) rs) (k : ∀ t' s r,Hd t t'→rs=rowD t' s :: r→T) : T:=by
 cases h with
 | en s=>exact k _ s _ (.inl rfl) rfl
 | one s _ _=>exact k _ s _ (.inl rfl) rfl
 | gt s _=>exact k _ s _ (.inr (.inl ⟨rfl,rfl⟩)) rfl
 | am s _=>exact k _ s _ (.inr (.inr ⟨rfl,rfl⟩)) rfl
theorem Grp.tail {rs : List D} {T : Prop} (h : Grp (t :: ts) rs) (k : soleB t=true) (he : isEn t=false) (q : ∀ s r,rs=rowD t s :: r→Grp ts r→T) : T:=by
 cases h with
 | en s=>cases he
 | one s _ g=>exact q s _ rfl g
 | gt s _=>cases k
 | am s _=>cases k
theorem drop_head {α : Type} {l : List α} {k : Nat} {x : α} {r : List α} (h : l.drop k=x :: r) : l[k]?=some x∧k < l.length∧l.drop (k + 1)=r:=by
 have h0 : (l.drop k)[0]?=some x:=by rw [h]; rfl
 rw [List.getElem?_drop,Nat.add_zero] at h0
 refine ⟨h0,(List.getElem?_eq_some_iff.mp h0).1,?_⟩
 rw [← List.drop_drop,h]; rfl
theorem Wst.el {T : Prop} (h : Wst σ j ts) (k : ∀ (rows : List D) (kk : Nat),σ[j + 1]?=some (.wd j kk)→σ[j]?=some (.lst rows)→Grp ts (rows.drop kk)→T) : T:=h.elim fun r h=>h.elim fun kk h=>k r kk h.1 h.2.1 h.2.2
theorem peek_i {l k a : Nat} (h : k + a < l) : (if (l : Int) - 1 < (k : Int) + (a : Int) then (l : Int) - 1 else (k : Int) + a)=((k + a : Nat) : Int):=by
 rw [if_neg (by omega)]; rfl
theorem peek_b {m a k : Nat} {rows : List D} {x : D} (h1 : σ[j + 1]?=some (.wd j k)) (h2 : σ[j]?=some (.lst rows)) (hx : rows[k + a]?=some x) (q : Q (.d x) σ) :
  wSs Bx (Cl m) (F .wPeek).body (Nd σ.length Q) (Jd σ.length E Q) [some (.w (j + 1)),some (.d (.int (a : Int)))] σ:=by
 refine ww h1 (ww h1 (ww h1 (len_l h2 (idx_l h2 (peek_i (List.getElem?_eq_some_iff.mp hx).1) hx (zd rfl q)))))
theorem peek_0 {k : Nat} {rows : List D} {x : D} (hn : 1≤n) (h1 : σ[j + 1]?=some (.wd j k)) (h2 : σ[j]?=some (.lst rows)) (hx : rows[k]?=some x) (q : Q (.d x) σ) : Wd σ (j + 1) fun _ _=>Cl n .wPeek [.w (j + 1)] σ E Q:=
 ww h1 (def_k hn rfl fun m _=>peek_b (a:=0) h1 h2 hx q)
theorem peek_a {k a : Nat} {rows : List D} {x : D} (hn : 1≤n) (h1 : σ[j + 1]?=some (.wd j k)) (h2 : σ[j]?=some (.lst rows)) (hx : rows[k + a]?=some x) (q : Q (.d x) σ) : Wd σ (j + 1) fun _ _=>(Cl n .wPeek [.w (j + 1),.d (.int (a : Int))] σ E Q):=
 ww h1 (def_k hn rfl fun m _=>peek_b h1 h2 hx q)
theorem w_peekH (hn : 1≤n) (h : Wst σ j (t :: ts)) (q : ∀ t' s,Hd t t'→Q (.d (rowD t' s)) σ) : Wd σ (j + 1) fun _ _=>Cl n .wPeek [.w (j + 1)] σ E Q:=
 h.el fun rows k h1 h2 g=>g.head fun t' s r hh e=>peek_0 hn h1 h2 (drop_head e).1 (q t' s hh)
theorem w_peek (hn : 1≤n) (h : Wst σ j (t :: ts)) (k : soleB t=true) (q : ∀ s,Q (.d (rowD t s)) σ) : Wd σ (j + 1) fun _ _=>Cl n .wPeek [.w (j + 1)] σ E Q:=
 w_peekH hn h fun t' s hh=>hh.sole k ▸ q s
theorem looks_b {m : Nat} {x : List Nat} {a : V} {s : Int} (q : Q (.d (.bool (lk t x))) σ) (hp : ∀ K : Kv,K (.d (rowD t s)) σ→Wd σ (j + 1) fun _ _=>(Cl m .wPeek [.w (j + 1),a] σ (fun τ=>E (τ.take σ.length)) K)) :
  wSs Bx (Cl m) (F .wLooks).body (Nd σ.length Q) (Jd σ.length E Q) [some (.w (j + 1)),some (.d (.str x)),some a,none] σ:=by
 refine hp _ ?_
 cases t with
 | nm l=>exact zd rfl q
 | sg l=>exact zd rfl q
 | _=>exact zd rfl q
theorem w_looksH {x : List Nat} (hn : 2≤n) (h : Wst σ j (t :: ts)) (q : ∀ t',Hd t t'→Q (.d (.bool (lk t' x))) σ) : Wd σ (j + 1) fun _ _=>(Cl n .wLooks [.w (j + 1),.d (.str x)] σ E Q):=
 h.el fun rows k h1 h2 g=>g.head fun t' s r hh e=>ww h1 (def_k hn rfl fun m hm=>looks_b (q t' hh) fun K=>peek_a (a:=0) hm h1 h2 (drop_head e).1)
theorem Wst.hd {T : Prop} (h : Wst σ j (t :: ts)) (k : ∀ t',Hd t t'→(∀ {n : Nat} {x : List Nat} {b : Bool} {E : Ke} {Q : Kv},2≤n→lk t' x=b→Q (.d (.bool b)) σ→Wd σ (j + 1) fun _ _=>Cl n .wLooks [.w (j + 1),.d (.str x)] σ E Q)→T) : T:=
 h.el fun rows kk h1 h2 g=>g.head fun t' s r hh e=>k t' hh fun hn e1 q=>ww h1 (def_k hn rfl fun m hm=>looks_b (e1 ▸ q) fun K=>peek_a (a:=0) hm h1 h2 (drop_head e).1)
theorem w_looks {x : List Nat} {b : Bool} (hn : 2≤n) (h : Wst σ j (t :: ts)) (hx : twins.contains x=false) (e : lk t x=b) (q : Q (.d (.bool b)) σ) : Wd σ (j + 1) fun _ _=>Cl n .wLooks [.w (j + 1),.d (.str x)] σ E Q:=
 w_looksH hn h fun t' hh=>(hh.lk hx).trans e ▸ q
theorem w_looks1 {x : List Nat} {b : Bool} (hn : 2≤n) (h : Wst σ j (t :: ts)) (k : soleB t=true) (e : lk t x=b) (q : Q (.d (.bool b)) σ) : Wd σ (j + 1) fun _ _=>Cl n .wLooks [.w (j + 1),.d (.str x)] σ E Q:=
 w_looksH hn h fun t' hh=>hh.sole k ▸ e ▸ q
theorem w_looks2 {x : List Nat} {b : Bool} (hn : 2≤n) (h : Wst σ j (t :: t2 :: ts)) (k : soleB t=true) (he : isEn t=false) (hx : twins.contains x=false) (e : lk t2 x=b) (q : Q (.d (.bool b)) σ) : Wd σ (j + 1) fun _ _=>Cl n .wLooks [.w (j + 1),.d (.str x),.d (.int 1)] σ E Q:=
 h.el fun rows kk h1 h2 g=>g.tail k he fun s r e1 g2=>g2.head fun t' s' r' hh e'=>ww h1 (def_k hn rfl fun m hm=>looks_b ((hh.lk hx).trans e ▸ q) fun K=>peek_a (a:=1) hm h1 h2 (drop_head ((drop_head e1).2.2.trans e')).1)
theorem Wst.step {rows : List D} {k : Nat} (h1 : σ[j + 1]?=some (.wd j k)) (h2 : σ[j]?=some (.lst rows)) (g : Grp ts (rows.drop (k + 1))) : Wst (σ.set (j + 1) (.wd j ((k : Int) + 1))) j ts∧UpdW j σ (σ.set (j + 1) (.wd j ((k : Int) + 1))):=by
 have hl : j + 1 < σ.length:=(List.getElem?_eq_some_iff.mp h1).1
 exact ⟨⟨rows,k + 1,List.getElem?_set_self hl,(List.getElem?_set_ne (Nat.succ_ne_self j)).trans h2,g⟩,List.length_set,fun i a b=>List.getElem?_set_ne (Ne.symm b)⟩
theorem take_b {rows : List D} {kk : Nat} {s : Int} (hn : 2≤n) (h1 : σ[j + 1]?=some (.wd j kk)) (h2 : σ[j]?=some (.lst rows)) (hx : rows[kk]?=some (rowD t s)) (he : isEn t=false) (g : Grp ts (rows.drop (kk + 1))) (q : ∀ σ',Wst σ' j ts→UpdW j σ σ'→Q (.d (rowD t s)) σ') :
  Wd σ (j + 1) fun _ _=>(Cl n .wTake [.w (j + 1)] σ E Q):=
 ww h1 (def_k hn rfl fun m hm=>peek_0 hm h1 h2 hx (by
  have w:=Wst.step h1 h2 g
  have z : Zd σ.length Q false (.d (rowD t s)) (σ.set (j + 1) (.wd j ((kk : Int) + 1))):=zd List.length_set (q _ w.1 w.2)
  cases t with
  | en=>cases he
  | _=>exact ww h1 z))
theorem w_take (hn : 2≤n) (h : Wst σ j (t :: ts)) (k : soleB t=true) (he : isEn t=false) (q : ∀ s σ',Wst σ' j ts→UpdW j σ σ'→Q (.d (rowD t s)) σ') : Wd σ (j + 1) fun _ _=>(Cl n .wTake [.w (j + 1)] σ E Q):=
 h.el fun rows kk h1 h2 g=>g.tail k he fun s r e g2=>take_b hn h1 h2 (drop_head e).1 he ((drop_head e).2.2 ▸ g2) (q s)
theorem w_expect {x : List Nat} (hn : 3≤n) (h : Wst σ j (.sg x :: ts)) (k : soleB (.sg x)=true) (q : ∀ s σ',Wst σ' j ts→UpdW j σ σ'→Q (.d (rowD (.sg x) s)) σ') : Wd σ (j + 1) fun _ _=>(Cl n .wExpect [.w (j + 1),.d (.str x)] σ E Q):=
 h.el fun rows kk h1 h2 g=>ww h1 (def_k hn rfl fun m hm=>w_looks1 hm h k (beq_self_eq_true x) (w_take hm h k rfl fun s σ' w u=>zd u.len (q s σ' w u)))
noncomputable def kwD : List D:=kwL.map .str
theorem w_name {x : List Nat} (hn : 2≤n) (h : Wst σ j (.nm x :: ts)) (k : D.isIn (.str x) kwD=false) (q : ∀ (s : Int) σ',Wst σ' j ts→UpdW j σ σ'→Q (.d (.tup [.str x,.int s])) σ') : Wd σ (j + 1) fun _ _=>(Cl n .wName [.w (j + 1)] σ E Q):=
 h.el fun rows kk h1 h2 g=>g.tail rfl rfl fun s r e g2=>ww h1 (def_k hn rfl fun m hm=>peek_0 hm h1 h2 (drop_head e).1 (by
  have w:=Wst.step h1 h2 ((drop_head e).2.2 ▸ g2)
  exact br_t (beq_iff_eq.mpr k) (ww h1 (zd List.length_set (q s _ w.1 w.2)))))
theorem w_split (hn : 2≤n) (h : Wst σ j (.sg [62] :: ts)) (q : ∀ x σ',Wst σ' j ts→UpdW j σ σ'→Q (.d x) σ') : Wd σ (j + 1) fun _ _=>(Cl n .wSplitClose [.w (j + 1)] σ E Q):=by
 refine h.el fun rows kk h1 h2 g=>ww h1 (def_k hn rfl fun m hm=>?_)
 generalize hrs : rows.drop kk=rs at g
 cases g with
 | one s ne g=>
  refine peek_0 hm h1 h2 (drop_head hrs).1 ?_
  have w:=Wst.step h1 h2 ((drop_head hrs).2.2 ▸ g)
  exact ww h1 (zd List.length_set (q _ _ w.1 w.2))
 | gt s g=>
  refine peek_0 hm h1 h2 (drop_head hrs).1 ?_
  have hk:=(drop_head hrs).2.1
  have hj : j < σ.length:=(List.getElem?_eq_some_iff.mp h2).1
  refine ww h1 (ww h1 (ls h2 (bt (Bool.and_eq_true_iff.mpr ⟨decide_eq_true (Int.natCast_nonneg _),decide_eq_true (Int.ofNat_lt.mpr hk)⟩) (zd List.length_set (q _ _ ⟨rows.set kk (rowD (.sg [62]) (s + 1)),kk,?_,List.getElem?_set_self hj,?_⟩ ⟨List.length_set,fun i a b=>List.getElem?_set_ne (Ne.symm a)⟩)))))
  ·exact (List.getElem?_set_ne (Nat.succ_ne_self j).symm).trans h1
  ·rw [List.drop_eq_getElem_cons (by rw [List.length_set]; exact hk),List.getElem_set_self,List.drop_set_of_lt (Nat.lt_succ_self kk),(drop_head hrs).2.2]
   exact .one _ (fun e=>nomatch e) g
theorem w_closed (hn : 2≤n) (h : Wst σ j (t :: ts)) (q : Q (.d (.bool (clB t))) σ) : Cl n .isClosed [.w (j + 1)] σ E Q:=
 def_k hn rfl fun m hm=>w_peekH hm h fun t' s hh=>by
  rw [← hh.cl] at q
  cases t' with
  | sg l=>exact zd rfl q
  | _=>exact zd rfl q
end
end Mine
namespace Mine
noncomputable def leafD : D→Bool
 | .tup _=>false
 | .lst _=>false
 | _=>true
noncomputable def isT : D→Bool
 | .tup _=>true
 | _=>false
noncomputable def kindS : D→Bool
 | .str _=>true
 | _=>false
noncomputable def kindI : D→Bool
 | .int _=>true
 | .bool _=>true
 | _=>false
noncomputable def hdI : List D→Bool
 | []=>false
 | y :: _=>kindI y
noncomputable def rowH : List D→Bool
 | []=>true
 | x :: r=>!(kindS x && hdI r)
inductive Sps : List D→List D→Prop
 | nil : Sps [] []
 | leaf {x : D} {a b : List D} : leafD x=true→Sps a b→Sps (x :: a) (x :: b)
 | spot {l : List Nat} {s : Int} {r' r a b : List D} : Sps r' r→Sps a b→Sps (.tup (.str l :: .int s :: r') :: a) (.tup (.str l :: .int 0 :: r) :: b)
 | row {r' r a b : List D} : rowH r'=true→Sps r' r→Sps a b→Sps (.tup r' :: a) (.tup r :: b)
theorem Sps.hdI_eq {a b : List D} (h : Sps a b) : hdI a=hdI b:=by cases h <;> rfl
theorem Sps.rowH_eq {a b : List D} (h : Sps a b) : rowH a=rowH b:=by
 cases h with
 | leaf _ h=>exact congrArg (fun i=>!(kindS _ && i)) h.hdI_eq
 | _=>rfl
noncomputable def Sp (t' t : D) : Prop:=∀ ⦃a b : List D⦄,Sps a b→Sps (t' :: a) (t :: b)
theorem Sps.append {a b c d : List D} (h : Sps a b) (k : Sps c d) : Sps (a ++ c) (b ++ d):=by
 induction h with
 | nil=>exact k
 | leaf h _ ih=>exact .leaf h ih
 | spot h _ _ ih=>exact .spot h ih
 | row h g _ _ ih=>exact .row h g ih
theorem Sps.length {a b : List D} (h : Sps a b) : a.length=b.length:=by
 induction h with
 | nil=>rfl
 | leaf _ _ ih=>exact congrArg (· + 1) ih
 | spot _ _ _ ih=>exact congrArg (· + 1) ih
 | row _ _ _ _ ih=>exact congrArg (· + 1) ih
theorem Sps.strs : ∀ {a : List (List Nat)},Sps (a.map .str) (a.map .str)
 | []=>.nil
 | _ :: _=>.leaf rfl Sps.strs
theorem Sp.leaf {x : D} (h : leafD x=true) : Sp x x:=fun _ _=>Sps.leaf h
theorem Sp.spot {l : List Nat} {s : Int} {r' r : List D} (h : Sps r' r) : Sp (.tup (.str l :: .int s :: r')) (.tup (.str l :: .int 0 :: r)):=fun _ _=>Sps.spot h
theorem Sp.row {a b : List D} (h : Sps a b) (k : rowH a=true) : Sp (.tup a) (.tup b):=fun _ _=>Sps.row k h
theorem Sps.rowT {a b : List D} (h : Sps a b) : b.all isT=true→rowH a=true:=by
 induction h with
 | @leaf x a b h _ _=>cases x <;> first | exact (fun k=>Bool.noConfusion k) | exact Bool.noConfusion h
 | _=>exact fun _=>rfl
theorem rowS : ∀ {a : List (List Nat)},rowH (a.map .str)=true
 | []=>rfl
 | [_]=>rfl
 | _ :: _ :: _=>rfl
theorem Sp.rowS {a : List (List Nat)} : Sp (.tup (a.map .str)) (.tup (a.map .str)):=Sp.row Sps.strs Mine.rowS
structure ExtW (j : Nat) (σ τ : Store) : Prop where
 len : σ.length≤τ.length
 oth : ∀ i,i < σ.length→i ≠ j→i ≠ j + 1→τ[i]?=σ[i]?
section
variable {j p i : Nat} {σ τ υ : Store} {e : Ent} {es : List Ent} {ts : List Tk}
theorem ExtW.of (u : UpdW j σ τ) : ExtW j σ τ:=⟨Nat.le_of_eq u.len.symm,fun i _=>u.oth i⟩
theorem ExtW.app (a : ExtW j σ τ) : ExtW j σ (τ ++ es):=
 ⟨by rw [List.length_append]; exact tm a.len,fun i h n n2=>(List.getElem?_append_left (Nat.lt_of_lt_of_le h a.len)).trans (a.oth i h n n2)⟩
theorem ExtW.upd (a : ExtW j σ τ) (b : UpdW j τ υ) : ExtW j σ υ:=⟨Nat.le_trans a.len (Nat.le_of_eq b.len.symm),fun i h n n2=>(b.oth i n n2).trans (a.oth i h n n2)⟩
theorem ExtW.set (a : ExtW j σ τ) (h : σ.length≤p) : ExtW j σ (τ.set p e):=
 ⟨Nat.le_trans a.len (Nat.le_of_eq List.length_set.symm),fun i hi n n2=>(List.getElem?_set_ne (Nat.ne_of_gt (Nat.lt_of_lt_of_le hi h))).trans (a.oth i hi n n2)⟩
theorem ExtW.cut (a : ExtW j σ τ) : UpdW j σ (τ.take σ.length):=
 ⟨by rw [List.length_take]; exact Nat.min_eq_left a.len,fun i n n2=>by
  rcases Nat.lt_or_ge i σ.length with h | h
  ·rw [List.getElem?_take_of_lt h]; exact a.oth i h n n2
  ·rw [List.getElem?_eq_none h,List.getElem?_eq_none (Nat.le_trans (Nat.le_trans (by rw [List.length_take]; exact Nat.min_le_left _ _) h) (Nat.le_refl _))]⟩
theorem Wst.lt (h : Wst σ j ts) : j + 1 < σ.length:=h.el fun _ _ h1 _ _=>(List.getElem?_eq_some_iff.mp h1).1
theorem Wst.keep (h : Wst σ j ts) (k : ∀ i,i≤j + 1→τ[i]?=σ[i]?) : Wst τ j ts:=h.el fun rows kk h1 h2 g=>⟨rows,kk,(k _ (Nat.le_refl _)).trans h1,(k j (Nat.le_succ j)).trans h2,g⟩
theorem Wst.app (h : Wst σ j ts) : Wst (σ ++ es) j ts:=h.keep fun i hi=>List.getElem?_append_left (Nat.lt_of_le_of_lt hi h.lt)
theorem Wst.set (h : Wst σ j ts) (hp : j + 1 < p) : Wst (σ.set p e) j ts:=h.keep fun i hi=>List.getElem?_set_ne (Nat.ne_of_gt (Nat.lt_of_le_of_lt hi hp))
theorem Wst.cut {n : Nat} (h : Wst σ j ts) (hn : j + 1 < n) : Wst (σ.take n) j ts:=h.keep fun i hi=>List.getElem?_take_of_lt (Nat.lt_of_le_of_lt hi hn)
theorem UpdW.get' (u : UpdW j σ τ) (h : σ[i]?=some e) (n : j + 1 < i) : τ[i]?=some e:=u.get h (Nat.ne_of_gt (Nat.lt_of_succ_lt n)) (Nat.ne_of_gt n)
theorem get_app : (σ ++ e :: es)[σ.length]?=some e:=by rw [List.getElem?_append_right (Nat.le_refl _),Nat.sub_self]; rfl
theorem get_set (h : σ[i]?=some e) {e' : Ent} : (σ.set i e')[i]?=some e':=List.getElem?_set_self (List.getElem?_eq_some_iff.mp h).1
end
noncomputable abbrev TL:=List Tk→List Tk
noncomputable def RdAt (n : Nat) (f : Fn) (xs : List V) (t : D) (σ : Store) (j : Nat) (rest : List Tk) : Prop:=
 ∀ ⦃E : Ke⦄ ⦃Q : Kv⦄,(∀ t' σ',Sp t' t→Wst σ' j rest→UpdW j σ σ'→Q (.d t') σ')→Cl n f (.w (j + 1) :: xs) σ E Q
noncomputable def folL (fol : Tk→Bool) : List Tk→Bool
 | h :: _=>fol h
 | []=>false
noncomputable def RdF (f : Fn) (k : Nat) (fol : Tk→Bool) (xs : List V) (ts : TL) (t : D) : Prop:=
 ∀ n,k≤n→∀ {σ : Store} {j : Nat} {r : List Tk},Wst σ j (ts r)→folL fol r=true→RdAt n f xs t σ j r
theorem RdF.mono {f : Fn} {k k' : Nat} {fol : Tk→Bool} {xs : List V} {ts : TL} {t : D} (h : RdF f k fol xs ts t) (hk : k≤k') : RdF f k' fol xs ts t:=fun n hn=>h n (Nat.le_trans hk hn)
noncomputable def folT (h : Tk) : Bool:=!(lk h [58,58]) && !(lk h [60])
noncomputable def tyH (t0 : Tk) : Bool:=!(clB t0) && !(t0.kd == [114,101,103,105,111,110]) && !(lk t0 [41]) && !(lk t0 [109,117,116])
noncomputable def Hds (p : Tk→Bool) (ts : TL) : Prop:=∃ (t0 : Tk) (r : TL),(∀ x,ts x=t0 :: r x)∧p t0=true
theorem Hds.el {p : Tk→Bool} {ts : TL} {T : Prop} {σ : Store} {j : Nat} {x : List Tk} (h : Hds p ts) (hw : Wst σ j (ts x)) (k : ∀ t0 r,p t0=true→Wst σ j (t0 :: r)→T) : T:=
 h.elim fun t0 h=>h.elim fun r h=>k t0 (r x) h.2 (h.1 x ▸ hw)
noncomputable def regT : Option (List Nat)→TL
 | none=>id
 | some l=>fun r=>.rg l :: r
noncomputable def mutT (b : Bool) : TL:=fun r=>if b then .nm [109,117,116] :: r else r
noncomputable def regD : Option (List Nat)→D
 | none=>.none
 | some l=>.str l
noncomputable def refT (rx : Option (List Nat)) (m : Bool) (ts : TL) : TL:=fun r=>.sg [38] :: regT rx (mutT m (ts r))
noncomputable def refD (r : Option (List Nat)) (m : Bool) (t : D) : D:=.tup [.str [114,101,102],.int 0,regD r,.bool m,t]
noncomputable def naB (t : Tk) : Bool:=!lk t [38]
structure TYp (k : Nat) (ts : TL) (t : D) : Prop where
 rd : RdF .readType k folT [] ts t
 hd : Hds tyH ts
 am : ∀ {T : Prop},(Hds naB ts→T)→(∀ rx m ts2 t2,t=refD rx m t2→ts=refT rx m ts2→RdF .readType k folT [] ts2 t2→Hds tyH ts2→T)→T
 it : isT t=true
theorem TYp.mono {k k' : Nat} {ts : TL} {t : D} (h : TYp k ts t) (hk : k≤k') : TYp k' ts t:=
 ⟨h.rd.mono hk,h.hd,fun p q=>h.am p fun a b c d e1 e2 e3=>q a b c d e1 e2 (e3.mono hk),h.it⟩
section
variable {k n m j : Nat} {σ : Store} {h : Tk} {r : List Tk} {ts : TL} {t : D} {E : Ke} {Q : Kv}
theorem TYp.of {t0 : Tk} {ts : TL} (rd : RdF .readType k folT [] (fun r=>t0 :: ts r) t) (hd : tyH t0=true) (ha : naB t0=true) (it : isT t=true) : TYp k (fun r=>t0 :: ts r) t:=
 ⟨rd,⟨t0,ts,fun _=>rfl,hd⟩,fun p _=>p ⟨t0,ts,fun _=>rfl,ha⟩,it⟩
theorem TYp.never : TYp 3 (fun r=>.sg [33] :: r) (.tup [.str [110,101,118,101,114],.int 0]):=.of (fun n hn σ j r hw _ E Q q=>def_k hn rfl fun m hm=>
 w_peek (tl hm) hw rfl fun s=>w_looks1 hm hw rfl rfl (w_looks1 hm hw rfl rfl (w_looks1 hm hw rfl rfl (w_looks1 hm hw rfl rfl (w_looks1 hm hw rfl rfl (w_take hm hw rfl rfl fun s2 σ2 w2 u2=>zd u2.len (q _ _ (Sp.spot .nil) w2 u2))))))) rfl rfl rfl
theorem TYp.infer : TYp 3 (fun r=>.nm [95] :: r) (.tup [.str [105,110,102,101,114],.int 0]):=.of (fun n hn σ j r hw _ E Q q=>def_k hn rfl fun m hm=>
 w_peek (tl hm) hw rfl fun s=>w_looks1 hm hw rfl rfl (w_looks1 hm hw rfl rfl (w_looks1 hm hw rfl rfl (w_looks1 hm hw rfl rfl (w_looks1 hm hw rfl rfl (w_looks1 hm hw rfl rfl (w_take hm hw rfl rfl fun s2 σ2 w2 u2=>zd u2.len (q _ _ (Sp.spot .nil) w2 u2)))))))) rfl rfl rfl
end
end Mine
namespace Mine
section
variable {k n m j : Nat} {σ : Store} {h : Tk} {r : List Tk} {ts ts2 : TL} {t t2 : D} {E : Ke} {Q : Kv} {N : Kn} {J : J} {rx : Option (List Nat)} {mu : Bool} {x : List Nat} {s sp : Int} {x3 x4 x5 : Option V}
theorem tyH.el {t0 : Tk} {T : Prop} (h : tyH t0=true) (k : clB t0=false→(t0.kd == [114,101,103,105,111,110])=false→lk t0 [41]=false→lk t0 [109,117,116]=false→T) : T:=
 k (nt (a1 (a1 (a1 h)))) (nt (a2 (a1 (a1 h)))) (nt (a2 (a1 h))) (nt (a2 h))
theorem ref_mut (rd : RdF .readType k folT [] ts2 t2) (hd : Hds tyH ts2) (hk : k≤m) (h2 : 2≤m) (hf : folL folT r=true) (hw : Wst σ j (mutT mu (ts2 r)))
  (q : ∀ t2' σ',Sp t2' t2→Wst σ' j r→UpdW j σ σ'→N [some (.w (j + 1)),some (.d (rowD (.sg x) s)),some (.d (.int sp)),some (.d (regD rx)),some (.d (.bool mu)),some (.d (.tup [.str [114,101,102],.int sp,regD rx,.bool mu,t2']))] σ') :
  wSs Bx (Cl m) (((F .readRefType).body.drop 4).take 3) N J [some (.w (j + 1)),some (.d (rowD (.sg x) s)),some (.d (.int sp)),some (.d (regD rx)),x4,x5] σ:=by
 cases mu with
 | true=>exact w_looks1 h2 hw rfl rfl (w_take h2 hw rfl rfl fun _ σ1 w1 u1=>rd m hk w1 hf fun t' σ' p w u=>q t' σ' p w (u1.trans u))
 | false=>exact hd.el hw fun t0 r0 ht hw'=>w_looks h2 hw' rfl (tyH.el ht fun _ _ _ e=>e) (rd m hk hw hf q)
theorem mut_hd {p : Tk→Bool} (hd : Hds p ts) (hm : p (.nm [109,117,116])=true) : Hds p fun r=>mutT mu (ts r):=by
 cases mu with
 | true=>exact ⟨_,ts,fun _=>rfl,hm⟩
 | false=>exact hd
theorem Hds.imp {p q : Tk→Bool} {ts : TL} (h : Hds p ts) (k : ∀ t,p t=true→q t=true) : Hds q ts:=h.elim fun t h=>h.elim fun r h=>⟨t,r,h.1,k t h.2⟩
theorem ref_tail (rd : RdF .readType k folT [] ts2 t2) (hd : Hds tyH ts2) (hk : k≤m) (h2 : 2≤m) (hf : folL folT r=true) (hw : Wst σ j (regT rx (mutT mu (ts2 r))))
  (q : ∀ t2' σ',Sp t2' t2→Wst σ' j r→UpdW j σ σ'→N [some (.w (j + 1)),some (.d (rowD (.sg x) s)),some (.d (.int sp)),some (.d (regD rx)),some (.d (.bool mu)),some (.d (.tup [.str [114,101,102],.int sp,regD rx,.bool mu,t2']))] σ') :
  wSs Bx (Cl m) (((F .readRefType).body.drop 2).take 5) N J [some (.w (j + 1)),some (.d (rowD (.sg x) s)),some (.d (.int sp)),x3,x4,x5] σ:=by
 cases rx with
 | none=>
  have hd' : Hds (fun t=>!(t.kd == [114,101,103,105,111,110])) fun r=>mutT mu (ts2 r):=mut_hd (hd.imp fun t h=>tyH.el h fun _ e _ _=>congrArg not e) rfl
  exact hd'.el hw fun t0 r0 ht hw'=>w_peekH (tl h2) hw' fun t' s' hh=>br_f (by show (t'.kd == _)=false; rw [hh.kd]; exact nt ht) (ref_mut (rx:=none) rd hd hk h2 hf hw q)
 | some l=>exact w_peek (tl h2) hw rfl fun s'=>w_take h2 hw rfl rfl fun _ σ1 w1 u1=>ref_mut (rx:=some l) rd hd hk h2 hf w1 fun t' σ' p w u=>q t' σ' p w (u1.trans u)
theorem Sp.ref {t' : D} (h : Sp t' t) : Sp (.tup [.str [114,101,102],.int sp,regD rx,.bool mu,t']) (refD rx mu t):=by
 cases rx <;> exact Sp.spot (.leaf rfl (.leaf rfl (h .nil)))
theorem w_amp {ts : List Tk} (h2 : 2≤n) (hw : Wst σ j (.sg [38] :: ts)) (q : ∀ s σ',Wst σ' j ts→UpdW j σ σ'→Q (.d (rowD (.sg [38]) s)) σ') (q2 : ∀ s σ' ts',ts=.sg [38] :: ts'→Wst σ' j ts'→UpdW j σ σ'→Q (.d (rowD (.sg [38,38]) s)) σ') : Wd σ (j + 1) fun _ _=>Cl n .wTake [.w (j + 1)] σ E Q:=by
 refine hw.el fun rows kk h1 h2' g=>?_
 generalize hrs : rows.drop kk=rs at g
 cases g with
 | one s ne g=>exact take_b h2 h1 h2' (drop_head hrs).1 rfl ((drop_head hrs).2.2 ▸ g) (q s)
 | am s g=>exact take_b h2 h1 h2' (drop_head hrs).1 rfl ((drop_head hrs).2.2 ▸ g) fun σ'=>q2 s σ' _ rfl
theorem cons_inj {x y : Tk} {a b : List Tk} (h : x :: a=y :: b) : x=y∧a=b:=List.cons.inj h
theorem rd_ref (ty : TYp k ts2 t2) : RdF .readRefType (k + 3) folT [] (refT rx mu ts2) (refD rx mu t2):=fun n hn σ j r hw hf E Q q=>def_k hn rfl fun m hm=>
 w_amp (tl hm) hw (fun s σ1 w1 u1=>ref_tail (N:=wSs Bx (Cl m) ((F .readRefType).body.drop 7) (Nd σ.length Q) (Jd σ.length E Q)) ty.rd ty.hd (tr hm) (tl hm) hf w1 fun t' σ' p w u=>zd (u1.trans u).len (q _ _ p.ref w (u1.trans u)))
  fun s σ1 ts' he w1 u1=>by
   have hn : rx=none∧mu=false:=by
    cases rx with
    | some l=>cases (cons_inj he).1
    | none=>cases mu with
     | true=>cases (cons_inj he).1
     | false=>exact ⟨rfl,rfl⟩
   obtain ⟨q_0,q_1⟩:=hn; subst q_0; subst q_1
   refine ty.am (fun hd=>?_) fun rx2 mu2 ts3 t3 q_0 q_1 rd3 hd3=>?_
   ·refine hd.elim fun t0 hd=>hd.elim fun r0 hd=>?_
    have e:=(hd.1 r).symm.trans he
    have e2:=hd.2
    rw [(cons_inj e).1] at e2
    cases e2
   ·subst q_0; subst q_1
    rw [← (cons_inj he).2] at w1
    exact ref_tail (N:=wSs Bx (Cl m) ((F .readRefType).body.drop 7) (Nd σ.length Q) (Jd σ.length E Q)) rd3 hd3 (tr hm) (tl hm) hf w1 fun t' σ' p w u=>zd (u1.trans u).len (q _ _ (Sp.ref (rx:=none) (mu:=false) p.ref) w (u1.trans u))
theorem TYp.ref (ty : TYp k ts2 t2) : TYp (k + 4) (refT rx mu ts2) (refD rx mu t2):=⟨fun n hn σ j r hw hf E Q q=>def_k hn rfl fun m hm=>
 have h2 : 2≤m:=dl (tl hm) rfl
 w_peekH (tl h2) hw fun t' s hh=>hw.hd fun t1 h1 l1=>by
  have fin : Cl m .readRefType [.w (j + 1)] σ (fun τ=>E (τ.take σ.length)) (fun v σ'=>Zd σ.length Q false v σ'):=rd_ref ty m hm hw hf fun t' σ' p w u=>zd u.len (q _ _ p w u)
  rcases h1 with rfl | ⟨h1,_⟩ | ⟨_,rfl⟩
  ·exact l1 h2 rfl (l1 h2 rfl fin)
  ·cases h1
  ·exact l1 h2 rfl (l1 h2 rfl (l1 h2 rfl fin)),⟨_,_,fun _=>rfl,rfl⟩,fun _ p=>p _ _ _ _ rfl rfl (ty.rd.mono (Nat.le_add_right _ _)) ty.hd,rfl⟩
end
end Mine
namespace Mine
section
variable {k n m j : Nat} {σ : Store} {h : Tk} {r : List Tk} {ts ts2 : TL} {t t2 : D} {E : Ke} {Q : Kv} {N : Kn} {J : J}
theorem TYp.arr (ty : TYp k ts t) (x : List Nat) (v : Int) {u : D} (hu : ninD u (.tup [.none,.str [117,115,105,122,101]])=some false) : TYp (k + 5) (fun r=>.sg [91] :: ts (.sg [59] :: .nb x v u :: .sg [93] :: r)) (.tup [.str [97,114,114,97,121],.int 0,t,.int v]):=
 .of (fun n hn σ j r hw _ E Q q=>def_k hn rfl fun m hm=>have h2 : 2≤m:=dl (tl hm) rfl
  w_peek (tl h2) hw rfl fun s=>w_looks1 h2 hw rfl rfl (w_looks1 h2 hw rfl rfl (w_looks1 h2 hw rfl rfl (w_looks1 h2 hw rfl rfl (def_k hm rfl fun m hm=>w_expect (tl hm) hw rfl fun s σ1 w1 u1=>
   ty.rd m (tr hm) w1 rfl fun t' σ2 p w2 u2=>w_expect (tl hm) w2 rfl fun _ σ3 w3 u3=>w_take (dl (tl hm) rfl) w3 rfl rfl fun _ σ4 w4 u4=>op hu (w_expect (tl hm) w4 rfl fun _ σ5 w5 u5=>
    have uu:=(((u1.trans u2).trans u3).trans u4).trans u5
    zd uu.len (zd uu.len (q _ _ (Sp.spot (p (.leaf rfl .nil))) w5 uu)))))))) rfl rfl rfl
noncomputable def rwT : List TL→Bool→TL
 | [],_,r=>r
 | x :: xs,last,r=>x (match xs with
  | []=>if last then .sg [44] :: r else r
  | _ :: _=>.sg [44] :: rwT xs last r)
noncomputable def flagT : List (TL × D)→Bool→Bool→Bool
 | [],b,_=>b
 | _ :: _,_,last=>last
structure Itm (k : Nat) (f : Fn) (fol : Tk→Bool) (hdB : Tk→Bool) (ts : TL) (t : D) : Prop where
 rd : RdF f k fol [] ts t
 hd : Hds hdB ts
 it : isT t=true
theorem TYp.itm (h : TYp k ts t) : Itm k .readType folT tyH ts t:=⟨h.rd,h.hd,h.it⟩
noncomputable def plist : List (TL × D)→List TL:=List.map (·.1)
noncomputable def dlist : List (TL × D)→List D:=List.map (·.2)
theorem all_it {f : Fn} {fol hdB : Tk→Bool} : ∀ {its : List (TL × D)},(∀ p∈its,Itm k f fol hdB p.1 p.2)→(dlist its).all isT=true
 | [],_=>rfl
 | p :: its,h=>Bool.and_eq_true_iff.mpr ⟨(h p (.head _)).it,all_it fun q hq=>h q (.tail _ hq)⟩
theorem row_loop {wt : Loc→Store→Ke→Kb→Prop} {wb : Kn→Mine.J→Loc→Store→Prop} {fr : Bool→Loc} {Inv : List D→List Tk→Store→Prop} {P : TL→D→Prop} {close : List Tk}
  (h0 : ∀ {b acc σ},Inv acc close σ→∀ {K : Kb},K false σ→wt (fr b) σ J.E K)
  (h1 : ∀ {x d more b acc σ},P x d→Inv acc (x more) σ→∀ {K : Kb},K true σ→wt (fr b) σ J.E K)
  (h2 : ∀ {x d more b acc σ},P x d→acc.length < 1000→Inv acc (x (.sg [44] :: more)) σ→∀ {N' B},(∀ d' σ',Sp d' d→Inv (acc ++ [d']) more σ'→N' (fr true) σ')→wb N' ⟨B,J.Z,J.E⟩ (fr b) σ)
  (h3 : ∀ {x d b acc σ},P x d→acc.length < 1000→Inv acc (x close) σ→∀ {N' B},(∀ d' σ',Sp d' d→Inv (acc ++ [d']) close σ'→B (fr false) σ')→wb N' ⟨B,J.Z,J.E⟩ (fr b) σ) :
  ∀ (its : List (TL × D)),(∀ p∈its,P p.1 p.2)→∀ last {W b acc σ},its.length < W→acc.length + its.length≤1000→Inv acc (rwT (plist its) last close) σ →
   (∀ ds' σ',Sps ds' (dlist its)→Inv (acc ++ ds') close σ'→N (fr (flagT its b last)) σ')→Bx (wWhile wt wb N J W (fr b) σ):=by
 intro its
 induction its with
 | nil=>
  intro _ last W b acc σ hW hl hI q
  exact while_go hW fun _ _=>h0 hI (q [] σ .nil ((List.append_nil acc).symm ▸ hI))
 | cons p its ih=>
  intro hP last W b acc σ hW hl hI q
  have hp : P p.1 p.2:=hP _ (.head _)
  have ha : acc.length < 1000:=Nat.lt_of_lt_of_le (Nat.lt_add_of_pos_right (Nat.succ_pos _)) hl
  refine while_go hW fun V hV=>h1 hp hI ?_
  have go : ∀ {more},more=rwT (plist its) last close→flagT its true last=last→Inv acc (p.1 (.sg [44] :: more)) σ→wb (wWhile wt wb N J V) ⟨N,J.Z,J.E⟩ (fr b) σ:=fun e ef hI=>
   h2 hp ha hI fun d' σ1 s1 i1=>Bx.h <| ih (fun q hq=>hP q (.tail _ hq)) last hV (by rw [List.length_append,Nat.add_assoc,Nat.add_comm [d'].length]; exact hl) (e ▸ i1) fun ds' σ2 s2 i2=>
    (show N (fr (flagT its true last)) σ2 from ef.symm ▸ q (d' :: ds') σ2 (s1 s2) (by rw [List.append_assoc] at i2; exact i2))
  cases its with
  | nil=>cases last with
   | true=>exact go rfl rfl hI
   | false=>exact h3 hp ha hI fun d' σ1 s1 i1=>q [d'] σ1 (s1 .nil) i1
  | cons q its=>exact go rfl rfl hI
theorem fit_snoc {acc : List D} {d : D} (h : acc.length < 1000) : fitD (acc ++ [d])=true:=fit_small (by rw [List.length_append]; exact h)
end
end Mine
namespace Mine
noncomputable def parBody (g : Fn) : FD:=⟨1,[],4,[
  .asg 1 (.idx (.wm .wExpect (.v 0) [(.c (.str [40]))]) (.c (.int 2))),
  .asgP [2,3] [(.lst true []),(.c (.bool true))],
  .while_ (.not (.wm .wLooks (.v 0) [(.c (.str [41]))])) [.app 2 (.call g [(.v 0)]),.asg 3 (.wm .wLooks (.v 0) [(.c (.str [44]))]),.if_ (.not (.v 3)) [.brk] [],.ex (.wm .wTake (.v 0) [])],
  .ex (.wm .wExpect (.v 0) [(.c (.str [41]))]),
  .if_ (.bop true [(.cmp .eq (.prim .len false [(.v 2)]) (.c (.int 1))),(.not (.v 3))]) [.ret false (.idx (.v 2) (.c (.int 0)))] [],
  .ret false (.tup [(.c (.str [116,117,112,108,101])),(.v 1),(.prim .tuple false [(.v 2)])])]⟩
theorem parBody_t : F .readParenType=parBody .readType:=rfl
theorem parBody_p : F .readParenPattern=parBody .readPattern:=rfl
structure RowI (j p : Nat) (σ₀ : Store) (acc : List D) (ts : List Tk) (σ : Store) : Prop where
 li : σ[p]?=some (.lst acc)
 w : Wst σ j ts
 x : ExtW j σ₀ σ
section
variable {k n m j p : Nat} {σ₀ σ : Store} {h : Tk} {r : List Tk} {ts ts2 : TL} {t t2 : D} {E : Ke} {Q : Kv} {N : Kn} {J : J} {acc : List D}
theorem RowI.push {d : D} {ts : List Tk} (i : RowI j p σ₀ acc ts σ) (hj : j + 1 < p) (hp : σ₀.length≤p) : RowI j p σ₀ (acc ++ [d]) ts (σ.set p (.lst (acc ++ [d]))):=⟨get_set i.li,i.w.set hj,i.x.set hp⟩
theorem RowI.upd {τ : Store} {ts us : List Tk} (i : RowI j p σ₀ acc ts σ) (hj : j + 1 < p) (u : UpdW j σ τ) (w : Wst τ j us) : RowI j p σ₀ acc us τ:=⟨u.get' i.li hj,w,i.x.upd u⟩
theorem par_loop {g : Fn} {fol hdB : Tk→Bool} {s : D} (hk : k≤m) (h2 : 2≤m) (hj : j + 1 < p) (hp : σ₀.length≤p) (hh : ∀ t,hdB t=true→lk t [41]=false) (fc : fol (.sg [44])=true) (fp : fol (.sg [41])=true)
  (its : List (TL × D)) (hI : ∀ p∈its,Itm k g fol hdB p.1 p.2) (last : Bool) {b : Bool} (hl : acc.length + its.length≤1000) (i : RowI j p σ₀ acc (rwT (plist its) last (.sg [41] :: r)) σ)
  (q : ∀ ds' σ',Sps ds' (dlist its)→RowI j p σ₀ (acc ++ ds') (.sg [41] :: r) σ'→N [some (.w (j + 1)),some (.d s),some (.l p),some (.d (.bool (flagT its b last)))] σ') :
  Bx (wWhile (wX Bx (Cl m) (.not (.wm .wLooks (.v 0) [.c (.str [41])]))).t (wSs Bx (Cl m) [.app 2 (.call g [.v 0]),.asg 3 (.wm .wLooks (.v 0) [(.c (.str [44]))]),.if_ (.not (.v 3)) [.brk] [],.ex (.wm .wTake (.v 0) [])]) N J WW [some (.w (j + 1)),some (.d s),some (.l p),some (.d (.bool b))] σ):=
 row_loop (fr:=fun b=>[some (.w (j + 1)),some (.d s),some (.l p),some (.d (.bool b))]) (Inv:=RowI j p σ₀) (P:=Itm k g fol hdB) (close:=.sg [41] :: r)
  (fun i _ q=>w_looks1 h2 i.w rfl rfl q)
  (fun h i _ q=>h.hd.el i.w fun t0 r0 ht hw=>w_looks h2 hw rfl (hh t0 ht) q)
  (fun h hl i _ _ q=>ls i.li (h.rd m hk i.w fc fun d' σ1 p1 w1 u1=>have i1:=i.upd hj u1 w1
   ls i1.li (bt (fit_snoc hl) (w_looks1 h2 (i1.push hj hp).w rfl rfl (w_take h2 (i1.push hj hp).w rfl rfl fun _ σ2 w2 u2=>q d' σ2 p1 ((i1.push hj hp).upd hj u2 w2))))))
  (fun h hl i _ _ q=>ls i.li (h.rd m hk i.w fp fun d' σ1 p1 w1 u1=>have i1:=i.upd hj u1 w1
   ls i1.li (bt (fit_snoc hl) (w_looks1 h2 (i1.push hj hp).w rfl rfl (q d' _ p1 (i1.push hj hp))))))
  its hI last (lw (tl hl)) hl i q
theorem RowI.cut {ts : List Tk} (i : RowI j p σ₀ acc ts σ) (hj : j + 1 < σ₀.length) : Wst (σ.take σ₀.length) j ts∧UpdW j σ₀ (σ.take σ₀.length):=⟨i.w.cut hj,i.x.cut⟩
theorem Sps.one {x d : D} (h : Sps [x] [d]) : Sp x d:=fun _ _ k=>h.append k
theorem rd_paren {f g : Fn} {fol fol' hdB : Tk→Bool} {d : D} (hF : F f=parBody g) (hh : ∀ t,hdB t=true→lk t [41]=false) (fc : fol (.sg [44])=true) (fp : fol (.sg [41])=true)
  (its : List (TL × D)) (hI : ∀ p∈its,Itm k g fol hdB p.1 p.2) (last : Bool) (hl : its.length≤1000)
  (hd : ∀ {m : Nat} {σ τ : Store} {p : Nat} {w : V} {s : Int} {ds' : List D} {E : Ke} {Q : Kv},Sps ds' (dlist its)→rowH ds'=true→τ[p]?=some (.lst ds')→(∀ t',Sp t' d→Q (.d t') (τ.take σ.length))→wSs Bx (Cl m) ((parBody g).body.drop 4) (Nd σ.length Q) (Jd σ.length E Q) [some w,some (.d (.int s)),some (.l p),some (.d (.bool (flagT its true last)))] τ) :
  RdF f (k + 4) fol' [] (fun r=>.sg [40] :: rwT (plist its) last (.sg [41] :: r)) d:=
 fun n hn σ j r hw _ E Q q=>def_F hF hn rfl fun m hm=>w_expect (tl hm) hw rfl fun s σ1 w1 u1=>
  par_loop (acc:=[]) (tr hm) (dl (tl hm) rfl) w1.lt (Nat.le_of_eq u1.len.symm) hh fc fp its hI last (b:=true) ((Nat.zero_add _).symm ▸ hl) ⟨get_app,w1.app,(ExtW.of u1).app⟩ fun ds' σ2 s2 i2=>w_expect (tl hm) i2.w rfl fun _ σ3 w3 u3=>
   have i3:=i2.upd w1.lt u3 w3
   hd s2 (s2.rowT (all_it hI)) i3.li fun t' p=>q t' _ p (i3.w.cut hw.lt) i3.x.cut
theorem rd_one {f g : Fn} {fol fol' hdB : Tk→Bool} {d : D} {ts : TL} (hF : F f=parBody g) (hh : ∀ t,hdB t=true→lk t [41]=false) (fc : fol (.sg [44])=true) (fp : fol (.sg [41])=true) (h : Itm k g fol hdB ts d) :
  RdF f (k + 4) fol' [] (fun r=>.sg [40] :: ts (.sg [41] :: r)) d:=
 rd_paren hF hh fc fp [(ts,d)] (fun p hp=>by cases hp with | head=>exact h | tail _ hp=>cases hp) false (Nat.succ_le_succ (Nat.zero_le _)) fun {m σ τ p w s ds' E Q} s2 _ li q=>by
  refine (List.length_eq_one_iff.mp s2.length).elim fun x e=>?_
  subst e
  exact len_l li (idx_l (i:=0) li rfl rfl (zc (q _ s2.one)))
theorem rd_tup {f g : Fn} {fol fol' hdB : Tk→Bool} (hF : F f=parBody g) (hh : ∀ t,hdB t=true→lk t [41]=false) (fc : fol (.sg [44])=true) (fp : fol (.sg [41])=true)
  (its : List (TL × D)) (hI : ∀ p∈its,Itm k g fol hdB p.1 p.2) (last : Bool) (hl : its.length≤1000) (h1 : its.length=1→last=true) : RdF f (k + 4) fol' [] (fun r=>.sg [40] :: rwT (plist its) last (.sg [41] :: r)) (.tup [.str [116,117,112,108,101],.int 0,.tup (dlist its)]):=
 rd_paren hF hh fc fp its hI last hl fun {m σ τ p w s ds' E Q} s2 hr li q=>by
  refine len_l li (br_and ?_ (with_l (f:=fun d=>tupD d τ) li (zc (q _ (Sp.spot (.row hr s2 .nil))))))
  cases its with
  | nil=>exact Bool.and_false _
  | cons p its=>cases last with
   | true=>exact Bool.and_false _
   | false=>
    rw [Bool.and_eq_false_iff]; left
    exact beq_eq_false_iff_ne.mpr fun e=>nomatch (h1 ((s2.length.trans (List.length_map _)).symm.trans (Int.ofNat.inj e)))
theorem TYp.brk (h : RdF .readParenType k folT [] (fun r=>.sg [40] :: ts r) t) (hk : 2≤k) (it : isT t=true) : TYp (k + 1) (fun r=>.sg [40] :: ts r) t:=
 .of (fun n hn σ j r hw hf E Q q=>def_k hn rfl fun m hm=>have h2:=Nat.le_trans hk hm
  w_peek (tl h2) hw rfl fun s=>w_looks1 h2 hw rfl rfl (h m hm hw hf fun t' σ' p w u=>zd u.len (q _ _ p w u))) rfl rfl it
theorem TYp.par (ty : TYp k ts t) : TYp (k + 5) (fun r=>.sg [40] :: ts (.sg [41] :: r)) t:=TYp.brk (rd_one parBody_t (fun t h=>tyH.el h fun _ _ e _=>e) rfl rfl ty.itm) (Nat.le_add_left _ _) ty.it
theorem TYp.tup (its : List (TL × D)) (hI : ∀ p∈its,TYp k p.1 p.2) (last : Bool) (hl : its.length≤1000) (h1 : its.length=1→last=true) : TYp (k + 5) (fun r=>.sg [40] :: rwT (plist its) last (.sg [41] :: r)) (.tup [.str [116,117,112,108,101],.int 0,.tup (dlist its)]):=
 TYp.brk (rd_tup parBody_t (fun t h=>tyH.el h fun _ _ e _=>e) rfl rfl its (fun p hp=>(hI p hp).itm) last hl h1) (Nat.le_add_left _ _) rfl
end
end Mine
namespace Mine
noncomputable def aftT (xs : List TL) (last : Bool) (r : List Tk) : List Tk:=match xs with
  | []=>if last then .sg [44] :: r else r
  | _ :: _=>.sg [44] :: rwT xs last r
theorem aft {T : Prop} (xs : List TL) (last : Bool) (r : List Tk) (h : xs=[]→aftT xs last r=r→T) (k : aftT xs last r=.sg [44] :: rwT xs last r→T) : T:=by
 cases xs with
 | nil=>cases last with
  | true=>exact k rfl
  | false=>exact h rfl rfl
 | cons=>exact k rfl
noncomputable def regL (rs : List (List Nat)) : List TL:=rs.map fun l r=>.rg l :: r
noncomputable def argBody (g : Fn) : List S:=[.if_ (.cmp .eq (.idx (.wm .wPeek (.v 0) []) (.c (.int 0))) (.c (.str [114,101,103,105,111,110]))) [.if_ (.cmp .ne (.v 2) (.lst false [])) [.raise (.c (.str [114,101,103,105,111,110,115,32,115,116,97,110,100,32,97,104,101,97,100,32,111,102,32,116,121,112,101,115])) (.idx (.wm .wPeek (.v 0) []) (.c (.int 2)))] [],.app 1 (.idx (.wm .wTake (.v 0) []) (.c (.int 1)))] [.app 2 (.call g [(.v 0)])],.if_ (.not (.wm .wLooks (.v 0) [(.c (.str [44]))])) [.brk] [],.ex (.wm .wTake (.v 0) [])]
structure ArgI (j p p' : Nat) (σ₀ : Store) (R T : List D) (ts : List Tk) (σ : Store) : Prop where
 lr : σ[p]?=some (.lst R)
 lt : σ[p']?=some (.lst T)
 w : Wst σ j ts
 x : ExtW j σ₀ σ
section
variable {k n m j p p' : Nat} {σ₀ σ : Store} {h c : Tk} {r : List Tk} {ts ts2 : TL} {t t2 : D} {E : Ke} {Q : Kv} {N B : Kn} {J : J} {Z : Kr} {acc R T : List D} {Γ : Loc} {xs : List TL} {last : Bool}
theorem comma_turn (h2 : 2≤m) (hc : lk c [44]=false) (hw : Wst σ j (aftT xs last (c :: r))) (hb : xs=[]→Wst σ j (c :: r)→B (some (.w (j + 1)) :: Γ) σ) (hn : ∀ σ',Wst σ' j (rwT xs last (c :: r))→UpdW j σ σ'→N (some (.w (j + 1)) :: Γ) σ') :
  wSs Bx (Cl m) [.if_ (.not (.wm .wLooks (.v 0) [(.c (.str [44]))])) [.brk] [],.ex (.wm .wTake (.v 0) [])] N ⟨B,Z,E⟩ (some (.w (j + 1)) :: Γ) σ:=by
 refine aft xs last (c :: r) (fun e e2=>?_) fun e=>?_
 ·rw [e2] at hw; exact w_looks h2 hw rfl hc (hb e hw)
 ·rw [e] at hw; exact w_looks1 h2 hw rfl rfl (w_take h2 hw rfl rfl fun _ σ' w' u=>hn σ' w' u)
theorem ArgI.pushR {d : D} {ts : List Tk} (i : ArgI j p p' σ₀ R T ts σ) (hj : j + 1 < p) (hq : p < p') (hp : σ₀.length≤p) : ArgI j p p' σ₀ (R ++ [d]) T ts (σ.set p (.lst (R ++ [d]))):=⟨get_set i.lr,(List.getElem?_set_ne (Nat.ne_of_lt hq)).trans i.lt,i.w.set hj,i.x.set hp⟩
theorem ArgI.pushT {d : D} {ts : List Tk} (i : ArgI j p p' σ₀ R T ts σ) (hj : j + 1 < p) (hq : p < p') (hp : σ₀.length≤p) : ArgI j p p' σ₀ R (T ++ [d]) ts (σ.set p' (.lst (T ++ [d]))):=⟨(List.getElem?_set_ne (Nat.ne_of_gt hq)).trans i.lr,get_set i.lt,i.w.set (Nat.lt_trans hj hq),i.x.set (Nat.le_trans hp (Nat.le_of_lt hq))⟩
theorem ArgI.upd {τ : Store} {ts us : List Tk} (i : ArgI j p p' σ₀ R T ts σ) (hj : j + 1 < p) (hq : p < p') (u : UpdW j σ τ) (w : Wst τ j us) : ArgI j p p' σ₀ R T us τ:=⟨u.get' i.lr hj,u.get' i.lt (Nat.lt_trans hj hq),w,i.x.upd u⟩
theorem regL_nil {rs : List (List Nat)} {its : List (TL × D)} (e : regL rs ++ plist its=[]) : rs.map D.str=[]∧dlist its=[]:=by
 cases rs with
 | cons=>cases e
 | nil=>cases its with
  | cons=>cases e
  | nil=>exact ⟨rfl,rfl⟩
theorem arg_loop {g : Fn} {fol hdB : Tk→Bool} (hk : k≤m) (h2 : 2≤m) (hj : j + 1 < p) (hq : p < p') (hp : σ₀.length≤p) (hc : ∀ t,hdB t=true→clB t=false) (hr : ∀ t,hdB t=true→(t.kd == [114,101,103,105,111,110])=false) (fc : fol (.sg [44])=true) (fp : fol (.sg [62])=true)
  (its : List (TL × D)) (hI : ∀ p∈its,Itm k g fol hdB p.1 p.2) (last : Bool) :
  ∀ (rs : List (List Nat)) {R : List D} {W σ},rs.length + its.length < W→R.length + (rs.length + its.length)≤1000→ArgI j p p' σ₀ R [] (rwT (regL rs ++ plist its) last (.sg [62] :: r)) σ →
  (∀ ds' σ',Sps ds' (dlist its)→ArgI j p p' σ₀ (R ++ rs.map .str) ds' (.sg [62] :: r) σ'→N [some (.w (j + 1)),some (.l p),some (.l p')] σ') →
  Bx (wWhile (wX Bx (Cl m) (.not (.call .isClosed [.v 0]))).t (wSs Bx (Cl m) (argBody g)) N J W [some (.w (j + 1)),some (.l p),some (.l p')] σ):=by
 intro rs
 induction rs with
 | nil=>
  intro R W σ hW hl i q
  refine row_loop (fr:=fun _=>[some (.w (j + 1)),some (.l p),some (.l p')]) (Inv:=ArgI j p p' σ₀ R) (P:=Itm k g fol hdB) (close:=.sg [62] :: r) ?_ ?_ ?_ ?_ its hI last (b:=true) (Nat.lt_of_le_of_lt (Nat.le_add_left _ _) hW) (Nat.le_trans (Nat.add_le_add (Nat.zero_le _) (Nat.le_add_left _ _)) hl) i
   fun ds' σ' s i'=>q ds' σ' s ((List.append_nil R).symm ▸ i')
  ·exact fun i _ q=>w_closed h2 i.w q
  ·exact fun h i _ q=>h.hd.el i.w fun t0 r0 ht hw=>w_closed h2 hw (hc t0 ht ▸ q)
  ·exact fun h hl i _ _ q=>h.hd.el i.w fun t0 r0 ht hw=>w_peekH (tl h2) hw fun t' s hh=>br_f (by show (t'.kd == _)=false; rw [hh.kd]; exact hr t0 ht) (ls i.lt (h.rd m hk i.w fc fun d' σ1 p1 w1 u1=>have i1:=i.upd hj hq u1 w1
    ls i1.lt (bt (fit_snoc hl) (w_looks1 h2 (i1.pushT hj hq hp).w rfl rfl (w_take h2 (i1.pushT hj hq hp).w rfl rfl fun _ σ2 w2 u2=>q d' σ2 p1 ((i1.pushT hj hq hp).upd hj hq u2 w2))))))
  ·exact fun h hl i _ _ q=>h.hd.el i.w fun t0 r0 ht hw=>w_peekH (tl h2) hw fun t' s hh=>br_f (by show (t'.kd == _)=false; rw [hh.kd]; exact hr t0 ht) (ls i.lt (h.rd m hk i.w fp fun d' σ1 p1 w1 u1=>have i1:=i.upd hj hq u1 w1
    ls i1.lt (bt (fit_snoc hl) (w_looks h2 (i1.pushT hj hq hp).w rfl rfl (q d' _ p1 (i1.pushT hj hq hp))))))
 | cons l rs ih=>
  intro R W σ hW hl i q
  have hl' : (R ++ [D.str l]).length + (rs.length + its.length)≤1000:=by rw [List.length_append,Nat.add_assoc,Nat.add_comm [D.str l].length,Nat.add_right_comm rs.length]; exact hl
  exact while_go hW fun V hV=>w_closed h2 i.w (w_peek (tl h2) i.w rfl fun s=>cmp_ne_nil i.lt (ls i.lr (w_take h2 i.w rfl rfl fun s σ1 w1 u1=>have i1:=i.upd hj hq u1 w1; ls i1.lr (bt (fit_small (tr hl'))
    (have i2:=i1.pushR hj hq hp
     comma_turn h2 rfl i2.w (fun e w=>q [] _ ((regL_nil e).2 ▸ .nil) (by rw [List.map_cons,(regL_nil e).1]; exact ⟨i2.lr,i2.lt,w,i2.x⟩))
     fun σ2 w2 u2=>(ih (by rw [List.length_cons,Nat.add_right_comm] at hV; exact hV) hl' (i2.upd hj hq u2 w2) fun ds' σ' s i=>q ds' σ' s (by rw [List.append_assoc] at i; exact i)).h)))))
end
end Mine
namespace Mine
noncomputable def plainNames : List (List Nat):=[[84],[97],[86,101,99,56]]
noncomputable def headNames : List (List Nat):=[[83,101,108,102],[99,114,97,116,101],[115,117,112,101,114],[115,101,108,102]]
noncomputable def nmB (first : Bool) (x : List Nat) : Bool:=plainNames.contains x || (first && headNames.contains x)
noncomputable def pwD : List D:=pwL.map .str
noncomputable def noNames : List (List Nat):=[[40],[38],[38,38],[91],[33],[95],[109,117,116],[41],[114,101,102],[116,114,117,101],[102,97,108,115,101],[45],[124],[58,58],[60],[123],[44],[64]]
theorem mem_c {x : List Nat} {l : List (List Nat)} (h : l.contains x=true) : x∈l:=List.contains_iff_mem.mp h
theorem plain_w {x : List Nat} (h : plainNames.contains x=true) : D.isIn (.str x) pwD=false∧D.isIn (.str x) kwD=false:=by
 have : ∀ x∈plainNames,D.isIn (.str x) pwD=false∧D.isIn (.str x) kwD=false:=by decide +kernel
 exact this x (mem_c h)
theorem head_w {x : List Nat} (h : headNames.contains x=true) : D.isIn (.str x) pwD=true:=by
 have : ∀ x∈headNames,D.isIn (.str x) pwD=true:=by decide +kernel
 exact this x (mem_c h)
theorem nm_el {first : Bool} {x : List Nat} {T : Prop} (h : nmB first x=true) (p : plainNames.contains x=true→T) (q : first=true→headNames.contains x=true→T) : T:=
 (Bool.or_eq_true_iff.mp h).elim p fun h=>q (a1 h) (a2 h)
theorem nm_lk {first : Bool} {x y : List Nat} (h : nmB first x=true) (hy : noNames.contains y=true) : lk (.nm x) y=false:=by
 have : ∀ x∈plainNames ++ headNames,∀ y∈noNames,(x == y)=false:=by decide +kernel
 exact this x (nm_el h (fun h=>List.mem_append_left _ (mem_c h)) fun _ h=>List.mem_append_right _ (mem_c h)) y (mem_c hy)
section
variable {k n m j p : Nat} {σ₀ σ : Store} {h : Tk} {r rest : List Tk} {ts us : TL} {t d c : D} {E : Ke} {Q : Kv} {N B : Kn} {J : J} {first e : Bool} {x nm : List Nat} {ahead : List D}
theorem w_pname (hx : nmB first x=true) (ha : first=true→ahead=[]) (hn : 3≤n) (hw : Wst σ j (.nm x :: r)) (q : ∀ σ',Wst σ' j r→UpdW j σ σ'→Q (.d (.str x)) σ') : Cl n .readPathName [.w (j + 1),.d (.tup ahead)] σ E Q:=
 def_k hn rfl fun m hm=>w_peek (tl hm) hw rfl fun s=>nm_el hx (fun h=>b1f (plain_w h).1 (w_name hm hw (plain_w h).2 fun _ σ' w u=>zd u.len (q σ' w u)))
  fun h h'=>b1t (head_w h') (by rw [ha h]; exact w_take hm hw rfl rfl fun _ σ' w u=>zd u.len (q σ' w u))
noncomputable def argTail (g : Fn) : List S:=[.asgP [1,2] [(.lst true []),(.lst true [])],.while_ (.not (.call .isClosed [(.v 0)])) (argBody g),.ex (.wm .wSplitClose (.v 0) []),.ret false (.tup [(.prim .tuple false [(.v 1)]),(.prim .tuple false [(.v 2)])])]
theorem args_tail {g : Fn} {fol hdB : Tk→Bool} (hk : k≤m) (h2 : 2≤m) (hc : ∀ t,hdB t=true→clB t=false) (hr : ∀ t,hdB t=true→(t.kd == [114,101,103,105,111,110])=false) (fc : fol (.sg [44])=true) (fp : fol (.sg [62])=true)
  (rs : List (List Nat)) (its : List (TL × D)) (hI : ∀ p∈its,Itm k g fol hdB p.1 p.2) (last : Bool) (hl : rs.length + its.length≤1000) (u1 : UpdW j σ₀ σ) (w1 : Wst σ j (rwT (regL rs ++ plist its) last (.sg [62] :: r)))
  (q : ∀ ts' σ',Sps ts' (dlist its)→Wst σ' j r→UpdW j σ₀ σ'→Q (.d (.tup [.tup (rs.map .str),.tup ts'])) σ') : wSs Bx (Cl m) (argTail g) (Nd σ₀.length Q) (Jd σ₀.length E Q) [some (.w (j + 1)),none,none] σ:=
 have hl1 : (σ ++ [Ent.lst []]).length=σ.length + 1:=List.length_append
 have hq : σ.length < (σ ++ [Ent.lst []]).length:=hl1 ▸ Nat.lt_succ_self _
 arg_loop (p:=σ.length) hk h2 w1.lt hq (Nat.le_of_eq u1.len.symm) hc hr fc fp its hI last rs (R:=[]) (lw hl) ((Nat.zero_add _).symm ▸ hl)
  ⟨(List.getElem?_append_left hq).trans get_app,get_app,w1.app.app,(ExtW.of u1).app.app⟩ fun ts' σ2 s2 i2=>w_split h2 i2.w fun x3 σ3 w3 u3=>
   have i3:=i2.upd w1.lt hq u3 w3
   with_l (f:=fun d=>tupD d σ3) i3.lr (with_l (f:=fun d=>tupD d σ3) i3.lt (zc (q ts' _ s2 (i3.w.cut (u1.len ▸ w1.lt)) i3.x.cut)))
theorem args_ok (rs : List (List Nat)) (its : List (TL × D)) (hI : ∀ p∈its,TYp k p.1 p.2) (last : Bool) (hl : rs.length + its.length≤1000) (hn : k + 4≤n) (hw : Wst σ j (.sg [60] :: rwT (regL rs ++ plist its) last (.sg [62] :: r)))
  (q : ∀ ts' σ',Sps ts' (dlist its)→Wst σ' j r→UpdW j σ σ'→Q (.d (.tup [.tup (rs.map .str),.tup ts'])) σ') : Cl n .readArguments [.w (j + 1)] σ E Q:=
 def_k hn rfl fun m hm=>w_expect (tl hm) hw rfl fun s σ1 w1 u1=>
  args_tail (tr hm) (dl (tl hm) rfl) (fun t h=>tyH.el h fun e _ _ _=>e) (fun t h=>tyH.el h fun _ e _ _=>e) rfl rfl rs its (fun p hp=>(hI p hp).itm) last hl u1 w1 q
noncomputable def SegFol (e : Bool) (r : List Tk) : Prop:=∀ ⦃T : Prop⦄,(∀ h q,r=h :: q→lk h [58,58]=false→(e=false→lk h [60]=false)→T)→(∀ x q,r=.sg [58,58] :: .nm x :: q→lk (.nm x) [60]=false→T)→T
structure SegP (k : Nat) (e first : Bool) (ts : TL) (d : D) : Prop where
 rd : ∀ n,k + 6≤n→∀ {σ : Store} {j : Nat} {r : List Tk} {ahead : List D},(first=true→ahead=[])→SegFol e r→Wst σ j (ts r)→∀ ⦃E : Ke⦄ ⦃Q : Kv⦄,
  (∀ nm x y σ',Sp (.tup [.str nm,.tup x,.tup y]) d→Wst σ' j r→UpdW j σ σ'→Q (.d (.tup [.str nm,.tup x,.tup y])) σ')→Cl n .readSegment [.w (j + 1),.d (.tup ahead),.d (.bool e)] σ E Q
 hd : ∀ {T : Prop},(∀ x (q : TL),nmB first x=true→ts=(fun r=>.nm x :: q r)→(e=true→q=id∧d=.tup [.str x,.tup [],.tup []]∨∃ z : TL,q=fun r=>.sg [58,58] :: z r)→T)→T
theorem sp_seg {x y : List D} (h : Sp (.tup x) (.tup y)) {rs : List (List Nat)} : Sp (.tup [.str nm,.tup (rs.map .str),.tup x]) (.tup [.str nm,.tup (rs.map .str),.tup y]):=Sp.row (.leaf rfl (Sp.rowS (h .nil))) rfl
theorem SegP.bare (hx : nmB first nm=true) : SegP k e first (fun r=>.nm nm :: r) (.tup [.str nm,.tup [],.tup []]) where
 rd n hn {σ j r ahead} ha hf hw E Q q:=def_k hn rfl fun m hm=>w_pname hx ha (dl (tl hm) rfl) hw fun σ1 w1 u1=>by
  have h2 : 2≤m:=dl (tl hm) rfl
  have fin : Zd σ.length Q false (.d (.tup [.str nm,.tup [],.tup []])) σ1:=zd u1.len (q _ _ _ _ (sp_seg (Sp.row .nil rfl) (rs:=[])) w1 u1)
  refine hf (fun h q e1 h1 h2'=>?_) fun x q e1 h1=>?_
  ·subst e1
   refine w_looks h2 w1 rfl h1 ?_
   cases e with
   | true=>exact fin
   | false=>exact w_looks h2 w1 rfl (h2' rfl) fin
  ·subst e1
   refine w_looks1 h2 w1 rfl rfl (w_looks2 h2 w1 rfl rfl rfl h1 ?_)
   cases e with
   | true=>exact fin
   | false=>exact w_looks1 h2 w1 rfl rfl fin
 hd k:=k nm id hx rfl fun _=>.inl ⟨rfl,rfl⟩
noncomputable def colT (c : Bool) : TL:=fun r=>if c then .sg [58,58] :: r else r
theorem SegP.args {col : Bool} (rs : List (List Nat)) (its : List (TL × D)) (last : Bool) (hx : nmB first nm=true) (hce : col=true∨e=false) (hI : ∀ p∈its,TYp k p.1 p.2) (hl : rs.length + its.length≤1000) :
  SegP k e first (fun r=>.nm nm :: colT col (.sg [60] :: rwT (regL rs ++ plist its) last (.sg [62] :: r))) (.tup [.str nm,.tup (rs.map .str),.tup (dlist its)]) where
 rd n hn {σ j r ahead} ha hf hw E Q q:=def_k hn rfl fun m hm=>w_pname hx ha (dl (tl hm) rfl) hw fun σ1 w1 u1=>by
  have h2 : 2≤m:=dl (tl hm) rfl
  have fin : ∀ {ts' σ' τ},UpdW j σ τ→Sps ts' (dlist its)→Wst σ' j r→UpdW j τ σ'→Zd σ.length Q false (.d (.tup [.str nm,.tup (rs.map .str),.tup ts'])) σ':=fun u s w u'=>
   zd (u.trans u').len (q _ _ _ _ (sp_seg (Sp.row s (s.rowT (all_it fun p hp=>(hI p hp).itm)))) w (u.trans u'))
  cases col with
  | true=>exact w_looks1 h2 w1 rfl rfl (w_looks2 h2 w1 rfl rfl rfl rfl (w_take h2 w1 rfl rfl fun _ σ2 w2 u2=>args_ok rs its hI last hl (Nat.le_of_succ_le hm) w2 fun ts' σ3 s w u=>fin (u1.trans u2) s w u))
  | false=>
   have he : e=false:=hce.elim nofun id
   subst he
   exact w_looks1 h2 w1 rfl rfl (w_looks1 h2 w1 rfl rfl (args_ok rs its hI last hl (Nat.le_of_succ_le hm) w1 fun ts' σ3 s w u=>fin u1 s w u))
 hd k:=k nm _ hx rfl fun he=>.inr (by
  rcases hce with h | h
  ·subst h; exact ⟨_,rfl⟩
  ·rw [h] at he; cases he)
end
end Mine
namespace Mine
noncomputable def folP (e : Bool) (h : Tk) : Bool:=!(lk h [58,58]) && (e || !(lk h [60]))
noncomputable def vsE (e : Bool) : List V:=if e then [.d (.bool true)] else []
structure PathP (k : Nat) (e : Bool) (ts : TL) (ds : List D) : Prop where
 rd : RdF .readSpath (k + 8) (folP e) (vsE e) ts (.tup ds)
 hd : ∀ {T : Prop},(∀ x (q : TL),nmB true x=true→ts=(fun r=>.nm x :: q r)→(e=true→q=id∧ds=[.tup [.str x,.tup [],.tup []]]∨∃ z : TL,q=fun r=>.sg [58,58] :: z r)→T)→T
section
variable {k n m j p : Nat} {σ₀ σ : Store} {h : Tk} {r rest : List Tk} {ts us : TL} {t d c : D} {ds : List D} {E : Ke} {Q : Kv} {N B : Kn} {J : J} {first e : Bool} {x nm : List Nat}
theorem fol_seg (h : folL (folP e) r=true) : SegFol e r:=fun T a _=>by
 cases r with
 | nil=>cases h
 | cons c r=>exact a c r rfl (nt (a1 h)) fun he=>by rw [he] at h; exact nt (a2 h)
theorem fol_nc {T : Prop} (h : folL (folP e) r=true) (k : ∀ c q,r=c :: q→lk c [58,58]=false→T) : T:=by
 cases r with
 | nil=>cases h
 | cons c r=>exact k c r rfl (nt (a1 h))
theorem bind_sp : bindV (F .readSpath) (.w (j + 1) :: vsE e)=some [some (.w (j + 1)),some (.d (.bool e)),none,none]:=by cases e <;> rfl
theorem nm_t (h : nmB first x=true) : nmB true x=true:=by
 unfold nmB at h ⊢
 cases first <;> cases h1 : plainNames.contains x <;> rw [h1] at h <;> first | rfl | exact h | cases h
theorem sp_end {xs : List D} (h2 : 2≤m) (hj : j + 1 < σ₀.length) (hf : folL (folP e) r=true) (i : RowI j p σ₀ xs r σ) (s : Sp (.tup xs) (.tup ds)) (q : ∀ t' σ',Sp t' (.tup ds)→Wst σ' j r→UpdW j σ₀ σ'→Q (.d t') σ') {V : Nat} (hV : 1≤V) :
  Bx (wWhile (wX Bx (Cl m) (.wm .wLooks (.v 0) [.c (.str [58,58])])).t (wSs Bx (Cl m) [.ex (.wm .wTake (.v 0) []),.app 2 (.call .readSegment [(.v 0),(.prim .tuple false [(.comp false (.idx (.v 3) (.c (.int 0))) [3] (.v 2))]),(.v 1)])]) (wSs Bx (Cl m) [.ret false (.prim .tuple false [(.v 2)])] (Nd σ₀.length Q) (Jd σ₀.length E Q)) (Jd σ₀.length E Q) V [some (.w (j + 1)),some (.d (.bool e)),some (.l p),none] σ):=
 while_go hV fun _ _=>fol_nc hf fun c q' e h1=>w_looks h2 (e ▸ i.w) rfl h1 (with_l (f:=fun d=>tupD d σ) i.li (zc (q _ _ s (i.w.cut hj) i.x.cut)))
theorem PathP.one (s : SegP k e true ts d) : PathP k e ts [d] where
 rd n hn {σ j r} hw hf E Q q:=def_k hn bind_sp fun m hm=>s.rd m (Nat.le_of_succ_le hm) (fun _=>rfl) (fol_seg hf) hw fun nm x y σ1 p w1 u1=>
  sp_end (dl (tl hm) rfl) hw.lt hf ⟨get_app,w1.app,(ExtW.of u1).app⟩ (Sp.row (p .nil) rfl) q (Nat.le_add_left 1 _)
 hd k:=s.hd fun x q hx e hs=>k x q hx e fun he=>(hs he).imp (fun h=>⟨h.1,congrArg (fun d=>[d]) h.2⟩) id
theorem PathP.two (s : SegP k e true ts d) (s2 : SegP k e false us c) : PathP k e (fun r=>ts (.sg [58,58] :: us r)) [d,c] where
 rd n hn {σ j r} hw hf E Q q:=def_k hn bind_sp fun m hm=>
  have h2 : 2≤m:=dl (tl hm) rfl
  s.rd m (Nat.le_of_succ_le hm) (fun _=>rfl) (fun T _ b=>s2.hd fun x q hx e _=>b x (q r) (e ▸ rfl) (nm_lk hx rfl)) hw fun nm x y σ1 p w1 u1=>
   have i1 : RowI j σ1.length σ [.tup [.str nm,.tup x,.tup y]] (.sg [58,58] :: us r) (σ1 ++ [.lst [.tup [.str nm,.tup x,.tup y]]]):=⟨get_app,w1.app,(ExtW.of u1).app⟩
   while_go (k:=WW - 1) (Nat.le_refl _) fun V hV=>w_looks1 h2 i1.w rfl rfl (w_take h2 i1.w rfl rfl fun _ σ2 w2 u2=>
    have i2:=i1.upd w1.lt u2 w2
    ls i2.li (ls i2.li ⟨s2.rd m (Nat.le_of_succ_le hm) nofun (fol_seg hf) i2.w fun nm' x' y' σ3 p3 w3 u3=>
     have i3:=i2.upd w1.lt u3 w3
     ls i3.li (Bx.h (sp_end h2 hw.lt hf (i3.push w1.lt (Nat.le_of_eq u1.len.symm)) (Sp.row (p (p3 .nil)) rfl) q (tl hV)))⟩))
 hd k:=s.hd fun x q hx e hs=>k x (fun r=>q (.sg [58,58] :: us r)) hx (e ▸ rfl) fun he=>.inr (by
  rcases hs he with ⟨h,_⟩ | ⟨z,h⟩
  ·subst h; exact ⟨us,rfl⟩
  ·subst h; exact ⟨fun r=>z (.sg [58,58] :: us r),rfl⟩)
end
end Mine
namespace Mine
noncomputable def sepT (s : List Nat) (xs : List TL) : TL:=fun r=>xs.foldr (fun x r=>.sg s :: x r) r
section
variable {k n m j p : Nat} {σ₀ σ : Store} {h : Tk} {r rest : List Tk} {ts us : TL} {t d c : D} {ds : List D} {E : Ke} {Q : Kv} {N B : Kn} {J : J} {first e : Bool} {x nm : List Nat} {acc : List D}
theorem nm_tyH (h : nmB first x=true) : tyH (.nm x)=true:=by
 unfold tyH; rw [nm_lk h rfl,nm_lk h rfl]; rfl
theorem TYp.path (hp : PathP k false ts ds) : TYp (k + 9) ts (.tup [.str [112,97,116,104],.int 0,.tup ds]):=hp.hd fun x q hx he _=>by
 subst he
 exact .of (fun n hn σ j r hw hf E Q q=>def_k hn rfl fun m hm=>
  have h2 : 2≤m:=dl (tl hm) rfl
  have l : ∀ {y},noNames.contains y=true→lk (.nm x) y=false:=nm_lk hx
  w_peek (tl h2) hw rfl fun s=>w_looks1 h2 hw rfl (l rfl) (w_looks1 h2 hw rfl (l rfl) (w_looks1 h2 hw rfl (l rfl) (w_looks1 h2 hw rfl (l rfl) (w_looks1 h2 hw rfl (l rfl) (w_looks1 h2 hw rfl (l rfl)
   (hp.rd m hm hw hf fun t' σ' p w u=>zd u.len (q _ _ (Sp.spot (p .nil)) w u)))))))) (nm_tyH hx) (congrArg not (nm_lk hx rfl)) rfl
theorem fol_sep {s : List Nat} {fol : Tk→Bool} {xs : List TL} (hs : fol (.sg s)=true) (hf : folL fol r=true) : folL fol (sepT s xs r)=true:=by
 cases xs with
 | nil=>exact hf
 | cons=>exact hs
theorem sep_loop {s : List Nat} {g : Fn} {a : V} {fol : Tk→Bool} (hk : k≤m) (h2 : 2≤m) (hj : j + 1 < p) (hp : σ₀.length≤p) (h1 : soleB (.sg s)=true) (ht : twins.contains s=false) (hs : fol (.sg s)=true) (hf : folL fol r=true) (hc : ∀ c q,r=c :: q→lk c s=false) :
  ∀ (its : List (TL × D)) {acc : List D} {W σ},(∀ p∈its,RdF g k fol [] p.1 p.2)→its.length < W→acc.length + its.length≤1000→RowI j p σ₀ acc (sepT s (plist its) r) σ →
  (∀ ds' σ',Sps ds' (dlist its)→RowI j p σ₀ (acc ++ ds') r σ'→N [some (.w (j + 1)),some a,some (.l p)] σ') →
  Bx (wWhile (wX Bx (Cl m) (.wm .wLooks (.v 0) [.c (.str s)])).t (wSs Bx (Cl m) [.ex (.wm .wTake (.v 0) []),.app 2 (.call g [(.v 0)])]) N J W [some (.w (j + 1)),some a,some (.l p)] σ):=by
 intro its
 induction its with
 | nil=>
  intro acc W σ _ hW hl i q
  refine while_go hW fun V _=>?_
  cases r with
  | nil=>cases hf
  | cons c r=>exact w_looks h2 i.w ht (hc c r rfl) (q [] σ .nil ((List.append_nil acc).symm ▸ i))
 | cons x its ih=>
  intro acc W σ hI hW hl i q
  exact while_go hW fun V hV=>w_looks1 h2 i.w h1 (beq_self_eq_true s) (w_take h2 i.w h1 rfl fun _ σ1 w1 u1=>
   have i1:=i.upd hj u1 w1
   ls i1.li (hI _ (.head _) m hk i1.w (fol_sep hs hf) fun d' σ2 p2 w2 u2=>
    have i2:=i1.upd hj u2 w2
    ls i2.li (bt (fit_snoc (Nat.lt_of_lt_of_le (Nat.lt_add_of_pos_right (Nat.succ_pos _)) hl)) (Bx.h (ih (fun p hp=>hI p (.tail _ hp)) hV (by rw [List.length_append,Nat.add_assoc,Nat.add_comm [d'].length]; exact hl) (i2.push hj hp)
     fun ds' σ' s i=>q (d' :: ds') σ' (p2 s) (by rw [List.append_assoc] at i; exact i))))))
noncomputable def folG (h : Tk) : Bool:=!(lk h [58]) && !(lk h [43]) && folP false h
noncomputable def genH (t : Tk) : Bool:=!(clB t) && !(t.kd == [114,101,103,105,111,110])
noncomputable def genNames : List (List Nat):=[[84],[85]]
noncomputable def bndT (xs : List TL) : TL:=fun r=>match xs with
 | []=>r
 | x :: xs=>.sg [58] :: x (sepT [43] xs r)
theorem kw_gen (h : genNames.contains x=true) : D.isIn (.str x) kwD=false:=by
 have : ∀ x∈genNames,D.isIn (.str x) kwD=false:=by decide +kernel
 exact this x (mem_c h)
theorem fol_hd {fol : Tk→Bool} {T : Prop} (h : folL fol r=true) (k : ∀ c q,r=c :: q→fol c=true→T) : T:=by
 cases r with
 | nil=>cases h
 | cons c q=>exact k c q rfl h
theorem fol_imp {f g : Tk→Bool} (h : folL f r=true) (k : ∀ t,f t=true→g t=true) : folL g r=true:=by
 cases r with
 | nil=>cases h
 | cons c q=>exact k c h
theorem rd_param (hx : genNames.contains x=true) (its : List (TL × D)) (hI : ∀ p∈its,RdF .readSpath k (folP false) [] p.1 p.2) (hT : (dlist its).all isT=true) (hl : its.length≤900) : Itm (k + 4) .readParam folG genH (fun r=>.nm x :: bndT (plist its) r) (.tup [.str x,.tup (dlist its)]) where
 rd n hn {σ j r} hw hf E Q q:=def_k hn rfl fun m hm=>w_name (dl (tl hm) rfl) hw (kw_gen hx) fun s σ1 w1 u1=>by
  have h2 : 2≤m:=dl (tl hm) rfl
  have fin : ∀ {ds' σ'},Sps ds' (dlist its)→RowI j σ1.length σ ds' r σ'→wSs Bx (Cl m) [.ret false (.tup [(.v 1),(.prim .tuple false [(.v 2)])])] (Nd σ.length Q) (Jd σ.length E Q) [some (.w (j + 1)),some (.d (.str x)),some (.l σ1.length)] σ':=
   fun s i=>with_l (f:=fun d=>tupD d _) i.li (zc (q _ _ (Sp.row (.leaf rfl (Sp.row s (s.rowT hT) .nil)) rfl) (i.w.cut hw.lt) i.x.cut))
  have i1 : RowI j σ1.length σ [] (bndT (plist its) r) (σ1 ++ [.lst []]):=⟨get_app,w1.app,(ExtW.of u1).app⟩
  cases its with
  | nil=>exact fol_hd hf fun c q' e h=>w_looks h2 (e ▸ i1.w) rfl (nt (a1 (a1 h))) (fin .nil i1)
  | cons b its=>exact w_looks1 h2 i1.w rfl rfl (w_take h2 i1.w rfl rfl fun _ σ2 w2 u2=>
    have i2:=i1.upd w1.lt u2 w2
    have hf2:=fol_imp hf fun t h=>a2 h
    ls i2.li (hI _ (.head _) m (tr hm) i2.w (fol_sep rfl hf2) fun d' σ3 p3 w3 u3=>
     have i3:=i2.upd w1.lt u3 w3
     ls i3.li (sep_loop (tr hm) h2 w1.lt (Nat.le_of_eq u1.len.symm) rfl rfl rfl hf2 (fun c q' e=>by rw [e] at hf; exact nt (a2 (a1 hf))) its (fun p hp=>hI p (.tail _ hp)) (lw (dr (Nat.le_of_succ_le hl) rfl)) (by rw [Nat.add_comm]; exact dr hl rfl) (i3.push w1.lt (Nat.le_of_eq u1.len.symm))
      fun ds' σ' s i=>fin (p3 s) i)))
 hd:=⟨_,_,fun _=>rfl,rfl⟩
 it:=rfl
end
end Mine
namespace Mine
section
variable {k n m j p : Nat} {σ₀ σ : Store} {r : List Tk} {ts us : TL} {t d : D} {E : Ke} {Q : Kv} {N : Kn} {J : J} {x : List Nat}
theorem gen_ok (rs : List (List Nat)) (its : List (TL × D)) (hI : ∀ p∈its,Itm k .readParam folG genH p.1 p.2) (last : Bool) (hl : rs.length + its.length≤1000) :
  RdF .readGenerics (k + 4) (fun _=>true) [] (fun r=>.sg [60] :: rwT (regL rs ++ plist its) last (.sg [62] :: r)) (.tup [.tup (rs.map .str),.tup (dlist its)]):=
 fun n hn {σ j r} hw _ E Q q=>def_k hn rfl fun m hm=>have h2 : 2≤m:=dl (tl hm) rfl
  w_looks1 h2 hw rfl rfl (w_take h2 hw rfl rfl fun _ σ1 w1 u1=>args_tail (tr hm) h2 (fun t h=>nt (a1 h)) (fun t h=>nt (a2 h)) rfl rfl rs its hI last hl u1 w1 fun ts' σ' s w u=>
   q _ _ (Sp.row (Sp.rowS (Sp.row s (s.rowT (all_it hI)) .nil)) rfl) w u)
theorem gen_ok0 : RdF .readGenerics 3 (fun h=>!(lk h [60])) [] id (.tup [.tup [],.tup []]):=
 fun n hn {σ j r} hw hf E Q q=>def_k hn rfl fun m hm=>fol_hd hf fun c q' e h=>w_looks hm (e ▸ hw) rfl (nt h) (zd rfl (q _ _ (Sp.row (.row rfl .nil (.row rfl .nil .nil)) rfl) hw (.refl _ _)))
noncomputable def folPart (h : Tk) : Bool:=!(lk h [58,58]) && !(lk h [40]) && !(lk h [123]) && !(lk h [64]) && !(lk h [46,46,61])
noncomputable def folPat (h : Tk) : Bool:=folPart h && !(lk h [124])
noncomputable def ptH (t : Tk) : Bool:=!(lk t [41]) && !(lk t [124])
noncomputable def pqH (t : Tk) : Bool:=!(lk t [41])
noncomputable def refH (t : Tk) : Bool:=ptH t && !(lk t [109,117,116])
noncomputable def refPT (m : Bool) (ts : TL) : TL:=fun r=>.sg [38] :: mutT m (ts r)
noncomputable def refPD (m : Bool) (p : D) : D:=.tup [.str [114,101,102],.int 0,.bool m,p]
structure PTp (k : Nat) (ts : TL) (p : D) : Prop where
 rd : RdF .readPart k folPart [] ts p
 hd : Hds ptH ts
 am : ∀ {T : Prop},(Hds naB ts→T)→(∀ m ts2 p2,p=refPD m p2→ts=refPT m ts2→RdF .readPart k folPart [] ts2 p2→Hds refH ts2→T)→T
 it : isT p=true
theorem PTp.mono {k' : Nat} (h : PTp k ts t) (hk : k≤k') : PTp k' ts t:=⟨h.rd.mono hk,h.hd,fun p q=>h.am p fun a b c e1 e2 e3=>q a b c e1 e2 (e3.mono hk),h.it⟩
theorem PTp.of {t0 : Tk} (rd : RdF .readPart k folPart [] (fun r=>t0 :: ts r) t) (hd : ptH t0=true) (ha : naB t0=true) (it : isT t=true) : PTp k (fun r=>t0 :: ts r) t:=
 ⟨rd,⟨t0,ts,fun _=>rfl,hd⟩,fun p _=>p ⟨t0,ts,fun _=>rfl,ha⟩,it⟩
noncomputable abbrev PQp (k : Nat) (ts : TL) (p : D) : Prop:=Itm k .readPattern folPat pqH ts p
theorem Itm.mono {k' : Nat} {f : Fn} {fol hdB : Tk→Bool} (h : Itm k f fol hdB ts t) (hk : k≤k') : Itm k' f fol hdB ts t:=⟨h.rd.mono hk,h.hd,h.it⟩
noncomputable def leadT (b : Bool) (ts : TL) : TL:=fun r=>if b then .sg [124] :: ts r else ts r
theorem rd_bars {lead : Bool} {u : TL × D} (its : List (TL × D)) (hp : PTp k u.1 u.2) (hI : ∀ q∈its,PTp k q.1 q.2) (hl : its.length≤900)
  (hd : ∀ {m : Nat} {σ τ : Store} {p : Nat} {w : V} {s : Int} {ds' : List D} {E : Ke} {Q : Kv},Sps ds' (u.2 :: dlist its)→τ[p]?=some (.lst ds')→(∀ t',Sp t' d→Q (.d t') (τ.take σ.length))→wSs Bx (Cl m) ((F .readPattern).body.drop 4) (Nd σ.length Q) (Jd σ.length E Q) [some w,some (.d (.int s)),some (.l p)] τ) :
  RdF .readPattern (k + 3) folPat [] (leadT lead fun r=>u.1 (sepT [124] (plist its) r)) d:=
 fun n hn {σ j r} hw hf E Q q=>def_k hn rfl fun m hm=>by
  have h2 : 2≤m:=tl hm
  have hf1 : folL folPart r=true:=fol_imp hf fun t h=>a1 h
  have go : ∀ {s : Int} {σ1},Wst σ1 j (u.1 (sepT [124] (plist its) r))→UpdW j σ σ1→wSs Bx (Cl m) ((F .readPattern).body.drop 2) (Nd σ.length Q) (Jd σ.length E Q) [some (.w (j + 1)),some (.d (.int s)),none] σ1:=fun {s σ1} w1 u1=>
   hp.rd m (tr hm) w1 (fol_sep rfl hf1) fun d' σ2 p2 w2 u2=>
    have uu:=u1.trans u2
    sep_loop (p:=σ2.length) (acc:=[d']) (tr hm) h2 w2.lt (Nat.le_of_eq uu.len.symm) rfl rfl rfl hf1 (fun c q' e=>by rw [e] at hf; exact nt (a2 hf)) its (fun p hp=>(hI p hp).rd) (lw (dr hl rfl)) (by rw [Nat.add_comm]; exact dr (Nat.succ_le_succ hl) rfl) ⟨get_app,w2.app,(ExtW.of uu).app⟩
     fun ds' σ3 s3 i3=>hd (p2 s3) i3.li fun t' p=>q t' _ p (i3.w.cut hw.lt) i3.x.cut
  cases lead with
  | true=>exact w_peek (tl h2) hw rfl fun s=>w_looks1 h2 hw rfl rfl (w_take h2 hw rfl rfl fun _ σ1 w1 u1=>go w1 u1)
  | false=>exact hp.hd.el hw fun t0 r0 ht hw'=>w_peekH (tl h2) hw' fun t' s hh=>w_looks h2 hw' rfl (nt (a2 ht)) (go hw (.refl _ _))
theorem PQp.of (h : PTp k ts t) : PQp (k + 3) ts t where
 rd:=rd_bars (lead:=false) (u:=(ts,t)) [] h (fun _ h=>absurd h List.not_mem_nil) (Nat.zero_le _) fun {m σ τ p w s ds' E Q} s2 li q=>by
  refine (List.length_eq_one_iff.mp s2.length).elim fun x e=>?_
  subst e
  exact len_l li (idx_l (i:=0) li rfl rfl (zc (q _ s2.one)))
 hd:=h.hd.imp fun _ h=>a1 h
 it:=h.it
theorem PQp.bars (lead : Bool) {u v : TL × D} (its : List (TL × D)) (hp : PTp k u.1 u.2) (hI : ∀ q∈v :: its,PTp k q.1 q.2) (hl : its.length < 900) : PQp (k + 3) (leadT lead fun r=>u.1 (sepT [124] (plist (v :: its)) r)) (.tup [.str [111,114],.int 0,.tup (u.2 :: dlist (v :: its))]) where
 rd:=rd_bars (v :: its) hp hI hl fun {m σ τ p w s ds' E Q} s2 li q=>
  len_l li (br_f (beq_eq_false_iff_ne.mpr fun e=>nomatch (s2.length.symm.trans (Int.ofNat.inj e))) (with_l (f:=fun d=>tupD d τ) li (zc (q _ (Sp.spot (.row (s2.rowT (Bool.and_eq_true_iff.mpr ⟨hp.it,all_it fun p hp=>(⟨(hI p hp).rd,(hI p hp).hd,(hI p hp).it⟩ : Itm _ _ _ _ _ _)⟩)) s2 .nil))))))
 hd:=by
  cases lead with
  | true=>exact ⟨_,_,fun _=>rfl,rfl⟩
  | false=>exact hp.hd.elim fun t0 h=>h.elim fun r0 h=>⟨t0,fun r=>r0 (sepT [124] (plist (v :: its)) r),fun r=>h.1 _,a1 h.2⟩
 it:=rfl
end
end Mine
namespace Mine
section
variable {k n m j p : Nat} {σ₀ σ : Store} {r : List Tk} {ts us ts2 : TL} {t t2 d : D} {E : Ke} {Q : Kv} {N : Kn} {J : J} {x y : List Nat} {v u s sp : Int} {mu neg neg' : Bool} {x3 x4 : Option V}
noncomputable def numT (neg : Bool) (x : List Nat) (v : Int) : TL:=fun r=>if neg then .sg [45] :: .nb x v .none :: r else .nb x v .none :: r
noncomputable def numI (neg : Bool) (v : Int) : Int:=if neg then 0 - v else v
theorem w_whole (hn : 3≤n) (hw : Wst σ j (numT neg x v r)) (q : ∀ σ',Wst σ' j r→UpdW j σ σ'→Q (.d (.int (numI neg v))) σ') : Cl n .readWhole [.w (j + 1)] σ E Q:=
 def_k hn rfl fun m hm=>by
  cases neg with
  | false=>exact w_looks1 hm hw rfl rfl (w_take hm hw rfl rfl fun _ σ1 w1 u1=>zd u1.len (q _ w1 u1))
  | true=>exact w_looks1 hm hw rfl rfl (w_take hm hw rfl rfl fun _ σ1 w1 u1=>w_take hm w1 rfl rfl fun _ σ2 w2 u2=>zd (u1.trans u2).len (q _ w2 (u1.trans u2)))
theorem num_part (rd : RdF .readNumber k folPart [] (fun r=>numT neg x v (ts r)) t) (hk : 2≤k) (it : isT t=true) : PTp (k + 1) (fun r=>numT neg x v (ts r)) t∧Hds refH (fun r=>numT neg x v (ts r)):=by
 cases neg with
 | false=>exact ⟨.of (fun n hn {σ j r} hw hf E Q q=>def_k hn rfl fun m hm=>have h2:=Nat.le_trans hk hm
   w_peek (tl h2) hw rfl fun s=>w_looks1 h2 hw rfl rfl (w_looks1 h2 hw rfl rfl (w_looks1 h2 hw rfl rfl (w_looks1 h2 hw rfl rfl (rd m hm hw hf fun t' σ' p w u=>zd u.len (q _ _ p w u)))))) rfl rfl it,⟨_,_,fun _=>rfl,rfl⟩⟩
 | true=>exact ⟨.of (fun n hn {σ j r} hw hf E Q q=>def_k hn rfl fun m hm=>have h2:=Nat.le_trans hk hm
   w_peek (tl h2) hw rfl fun s=>w_looks1 h2 hw rfl rfl (w_looks1 h2 hw rfl rfl (w_looks1 h2 hw rfl rfl (w_looks1 h2 hw rfl rfl (w_looks1 h2 hw rfl rfl (rd m hm hw hf fun t' σ' p w u=>zd u.len (q _ _ p w u))))))) rfl rfl it,⟨_,_,fun _=>rfl,rfl⟩⟩
theorem num_peek {ts : List Tk} (hn : 1≤n) (hw : Wst σ j (numT neg x v ts)) (q : ∀ t s,Q (.d (rowD t s)) σ) : Wd σ (j + 1) fun _ _=>Cl n .wPeek [.w (j + 1)] σ E Q:=by
 cases neg with
 | false=>exact w_peek hn hw rfl fun s=>q _ s
 | true=>exact w_peek hn hw rfl fun s=>q _ s
theorem PTp.int : PTp 5 (numT neg x v) (.tup [.str [108,105,116],.int 0,.int (numI neg v)])∧Hds refH (numT neg x v):=
 num_part (ts:=id) (fun n hn {σ j r} hw hf E Q q=>def_k hn rfl fun m hm=>num_peek (tl hm) hw fun t s=>w_whole hm hw fun σ1 w1 u1=>fol_hd hf fun c q' e h=>
  w_looks (tl hm) (e ▸ w1) rfl (nt (a2 h)) (zd u1.len (q _ _ (Sp.spot (.leaf rfl .nil)) w1 u1))) (Nat.le_add_left 2 2) rfl
theorem PTp.range : PTp 5 (fun r=>numT neg x v (.sg [46,46,61] :: numT neg' y u r)) (.tup [.str [114,97,110,103,101],.int 0,.int (numI neg v),.int (numI neg' u)])∧Hds refH (fun r=>numT neg x v (.sg [46,46,61] :: numT neg' y u r)):=
 num_part (ts:=fun r=>.sg [46,46,61] :: numT neg' y u r) (fun n hn {σ j r} hw hf E Q q=>def_k hn rfl fun m hm=>num_peek (tl hm) hw fun t s=>w_whole hm hw fun σ1 w1 u1=>w_looks1 (tl hm) w1 rfl rfl (w_take (tl hm) w1 rfl rfl fun _ σ2 w2 u2=>w_whole hm w2 fun σ3 w3 u3=>
  have uu:=(u1.trans u2).trans u3
  zd uu.len (q _ _ (Sp.spot (.leaf rfl (.leaf rfl .nil))) w3 uu))) (Nat.le_add_left 2 2) rfl
theorem PTp.wild : PTp 3 (fun r=>.nm [95] :: r) (.tup [.str [119,105,108,100],.int 0])∧Hds refH (fun r=>.nm [95] :: r):=⟨.of (fun n hn {σ j r} hw hf E Q q=>def_k hn rfl fun m hm=>
 w_peek (tl hm) hw rfl fun s=>w_looks1 hm hw rfl rfl (w_take hm hw rfl rfl fun _ σ1 w1 u1=>zd u1.len (q _ _ (Sp.spot .nil) w1 u1))) rfl rfl rfl,⟨_,_,fun _=>rfl,rfl⟩⟩
theorem PTp.tt : PTp 3 (fun r=>.nm [116,114,117,101] :: r) (.tup [.str [108,105,116],.int 0,.bool true])∧Hds refH (fun r=>.nm [116,114,117,101] :: r):=⟨.of (fun n hn {σ j r} hw hf E Q q=>def_k hn rfl fun m hm=>
 w_peek (tl hm) hw rfl fun s=>w_looks1 hm hw rfl rfl (w_looks1 hm hw rfl rfl (w_looks1 hm hw rfl rfl (w_looks1 hm hw rfl rfl (w_looks1 hm hw rfl rfl (w_looks1 hm hw rfl rfl (w_take hm hw rfl rfl fun _ σ1 w1 u1=>zd u1.len (q _ _ (Sp.spot (.leaf rfl .nil)) w1 u1)))))))) rfl rfl rfl,⟨_,_,fun _=>rfl,rfl⟩⟩
theorem PTp.ff : PTp 3 (fun r=>.nm [102,97,108,115,101] :: r) (.tup [.str [108,105,116],.int 0,.bool false])∧Hds refH (fun r=>.nm [102,97,108,115,101] :: r):=⟨.of (fun n hn {σ j r} hw hf E Q q=>def_k hn rfl fun m hm=>
 w_peek (tl hm) hw rfl fun s=>w_looks1 hm hw rfl rfl (w_looks1 hm hw rfl rfl (w_looks1 hm hw rfl rfl (w_looks1 hm hw rfl rfl (w_looks1 hm hw rfl rfl (w_looks1 hm hw rfl rfl (w_looks1 hm hw rfl rfl (w_take hm hw rfl rfl fun _ σ1 w1 u1=>zd u1.len (q _ _ (Sp.spot (.leaf rfl .nil)) w1 u1))))))))) rfl rfl rfl,⟨_,_,fun _=>rfl,rfl⟩⟩
theorem PTp.brk (rd : RdF .readParenPattern k folPart [] (fun r=>.sg [40] :: ts r) t) (hk : 2≤k) (it : isT t=true) : PTp (k + 1) (fun r=>.sg [40] :: ts r) t∧Hds refH (fun r=>.sg [40] :: ts r):=⟨.of (fun n hn {σ j r} hw hf E Q q=>def_k hn rfl fun m hm=>have h2:=Nat.le_trans hk hm
 w_peek (tl h2) hw rfl fun s=>w_looks1 h2 hw rfl rfl (w_looks1 h2 hw rfl rfl (w_looks1 h2 hw rfl rfl (w_looks1 h2 hw rfl rfl (rd m hm hw hf fun t' σ' p w u=>zd u.len (q _ _ p w u)))))) rfl rfl it,⟨_,_,fun _=>rfl,rfl⟩⟩
theorem PTp.par (ty : PQp k ts t) : PTp (k + 5) (fun r=>.sg [40] :: ts (.sg [41] :: r)) t∧Hds refH (fun r=>.sg [40] :: ts (.sg [41] :: r)):=PTp.brk (rd_one parBody_p (fun t h=>nt h) rfl rfl ty) (Nat.le_add_left _ _) ty.it
theorem PTp.tup (its : List (TL × D)) (hI : ∀ p∈its,PQp k p.1 p.2) (last : Bool) (hl : its.length≤1000) (h1 : its.length=1→last=true) : PTp (k + 5) (fun r=>.sg [40] :: rwT (plist its) last (.sg [41] :: r)) (.tup [.str [116,117,112,108,101],.int 0,.tup (dlist its)])∧Hds refH (fun r=>.sg [40] :: rwT (plist its) last (.sg [41] :: r)):=
 PTp.brk (rd_tup parBody_p (fun t h=>nt h) rfl rfl its hI last hl h1) (Nat.le_add_left _ _) rfl
theorem Sp.refp {t' : D} (h : Sp t' t) : Sp (.tup [.str [114,101,102],.int sp,.bool mu,t']) (refPD mu t):=Sp.spot (.leaf rfl (h .nil))
theorem refp_tail (rd : RdF .readPart k folPart [] ts2 t2) (hd : Hds refH ts2) (hk : k≤m) (h2 : 2≤m) (hf : folL folPart r=true) (hw : Wst σ j (mutT mu (ts2 r)))
  (q : ∀ t2' σ',Sp t2' t2→Wst σ' j r→UpdW j σ σ'→N [some (.w (j + 1)),some (.d (rowD (.sg x) s)),some (.d (.int sp)),some (.d (.bool mu)),some (.d (.tup [.str [114,101,102],.int sp,.bool mu,t2']))] σ') :
  wSs Bx (Cl m) (((F .readRefPattern).body.drop 2).take 3) N J [some (.w (j + 1)),some (.d (rowD (.sg x) s)),some (.d (.int sp)),x3,x4] σ:=by
 cases mu with
 | true=>exact w_looks1 h2 hw rfl rfl (w_take h2 hw rfl rfl fun _ σ1 w1 u1=>rd m hk w1 hf fun t' σ' p w u=>q t' σ' p w (u1.trans u))
 | false=>exact hd.el hw fun t0 r0 ht hw'=>w_looks h2 hw' rfl (nt (a2 ht)) (rd m hk hw hf q)
theorem rd_refp (ty : PTp k ts2 t2) (hd : Hds refH ts2) : RdF .readRefPattern (k + 3) folPart [] (refPT mu ts2) (refPD mu t2):=fun n hn {σ j r} hw hf E Q q=>def_k hn rfl fun m hm=>
 w_amp (tl hm) hw (fun s σ1 w1 u1=>refp_tail (N:=wSs Bx (Cl m) ((F .readRefPattern).body.drop 5) (Nd σ.length Q) (Jd σ.length E Q)) ty.rd hd (tr hm) (tl hm) hf w1 fun t' σ' p w u=>zd (u1.trans u).len (q _ _ p.refp w (u1.trans u)))
  fun s σ1 ts' he w1 u1=>by
   have hmu : mu=false:=by
    cases mu with
    | true=>cases (cons_inj he).1
    | false=>rfl
   subst hmu
   refine ty.am (fun hd=>?_) fun mu2 ts3 t3 q_0 q_1 rd3 hd3=>?_
   ·refine hd.elim fun t0 hd=>hd.elim fun r0 hd=>?_
    have e:=(hd.1 r).symm.trans he
    have e2:=hd.2
    rw [(cons_inj e).1] at e2
    cases e2
   ·subst q_0; subst q_1
    rw [← (cons_inj he).2] at w1
    exact refp_tail (N:=wSs Bx (Cl m) ((F .readRefPattern).body.drop 5) (Nd σ.length Q) (Jd σ.length E Q)) rd3 hd3 (tr hm) (tl hm) hf w1 fun t' σ' p w u=>zd (u1.trans u).len (q _ _ (Sp.refp (mu:=false) p.refp) w (u1.trans u))
theorem PTp.ref (ty : PTp k ts2 t2) (hd : Hds refH ts2) : PTp (k + 4) (refPT mu ts2) (refPD mu t2):=⟨fun n hn {σ j r} hw hf E Q q=>def_k hn rfl fun m hm=>
 have h2 : 2≤m:=dl (tl hm) rfl
 w_peekH (tl h2) hw fun t' s hh=>hw.hd fun t1 h1 l1=>by
  have fin : Cl m .readRefPattern [.w (j + 1)] σ (fun τ=>E (τ.take σ.length)) (fun v σ'=>Zd σ.length Q false v σ'):=rd_refp ty hd m hm hw hf fun t' σ' p w u=>zd u.len (q _ _ p w u)
  rcases h1 with rfl | ⟨h1,_⟩ | ⟨_,rfl⟩
  ·exact l1 h2 rfl (l1 h2 rfl fin)
  ·cases h1
  ·exact l1 h2 rfl (l1 h2 rfl (l1 h2 rfl fin)),⟨_,_,fun _=>rfl,rfl⟩,fun _ p=>p _ _ _ rfl rfl (ty.rd.mono (Nat.le_add_right _ _)) hd,rfl⟩
end
end Mine
namespace Mine
noncomputable def bindNames : List (List Nat):=[[120],[121],[99,111,117,110,116]]
theorem kw_bind {x : List Nat} (h : bindNames.contains x=true) : D.isIn (.str x) kwD=false:=by
 have : ∀ x∈bindNames,D.isIn (.str x) kwD=false:=by decide +kernel
 exact this x (mem_c h)
theorem kw_head {x : List Nat} (h : headNames.contains x=true) : D.isIn (.str x) kwD=true:=by
 have : ∀ x∈headNames,D.isIn (.str x) kwD=true:=by decide +kernel
 exact this x (mem_c h)
theorem bind_lk {x y : List Nat} (h : bindNames.contains x=true) (hy : noNames.contains y=true) : lk (.nm x) y=false:=by
 have : ∀ x∈bindNames,∀ y∈noNames,(x == y)=false:=by decide +kernel
 exact this x (mem_c h) y (mem_c hy)
noncomputable def refB (b : Bool) (ts : TL) : TL:=fun r=>if b then .nm [114,101,102] :: ts r else ts r
noncomputable def mutB (b : Bool) (ts : TL) : TL:=fun r=>mutT b (ts r)
noncomputable def innT : Option TL→TL
 | none=>id
 | some ts=>fun r=>.sg [64] :: ts r
noncomputable def InnP (k : Nat) : Option TL→D→Prop
 | none,p=>p=.none
 | some ts,p=>PTp k ts p
noncomputable def bindT' (r m : Bool) (x : List Nat) (o : Option TL) : TL:=refB r (mutB m fun q=>.nm x :: innT o q)
noncomputable def bindD (x : List Nat) (r m : Bool) (p : D) : D:=.tup [.str [110,97,109,101],.int 0,.str x,.bool r,.bool m,p]
noncomputable def alB (t : Tk) : Bool:=!(lk t [58,58]) && !(lk t [40]) && !(lk t [123])
section
variable {k n m j p : Nat} {σ₀ σ : Store} {q : List Tk} {t t2 : Tk} {d : D} {E : Ke} {Q : Kv} {N : Kn} {J : J} {x : List Nat} {s : Int} {r mu b : Bool} {o : Option TL}
theorem w_plain (hn : 1≤n) (e : D.isIn (.str x) kwD=b) (q : Q (.d (.bool (!b))) σ) : Cl n .isPlainName [.d (rowD (.nm x) s)] σ E Q:=def_k hn rfl fun m hm=>zd rfl (e ▸ q)
theorem w_alone (hn : 3≤n) (hw : Wst σ j (t :: t2 :: q)) (ht : soleB t=true) (he : isEn t=false) (e : alB t2=b) (k : Q (.d (.bool b)) σ) : Cl n .isAlone [.w (j + 1)] σ E Q:=def_k hn rfl fun m hm=>by
 unfold alB at e
 cases h1 : lk t2 [58,58] with
 | true=>rw [h1] at e; subst e; exact ⟨w_looks2 hm hw ht he rfl h1 (zd rfl k)⟩
 | false=>cases h2 : lk t2 [40] with
  | true=>rw [h1,h2] at e; subst e; exact ⟨w_looks2 hm hw ht he rfl h1 (w_looks2 hm hw ht he rfl h2 (zd rfl k))⟩
  | false=>cases h3 : lk t2 [123] with
   | true=>rw [h1,h2,h3] at e; subst e; exact ⟨w_looks2 hm hw ht he rfl h1 (w_looks2 hm hw ht he rfl h2 (w_looks2 hm hw ht he rfl h3 (zd rfl k)))⟩
   | false=>rw [h1,h2,h3] at e; subst e; exact ⟨w_looks2 hm hw ht he rfl h1 (w_looks2 hm hw ht he rfl h2 (w_looks2 hm hw ht he rfl h3 (zd rfl k)))⟩
theorem w_bind (hx : bindNames.contains x=true) (hi : InnP k o d) (hn : k + 4≤n) (hw : Wst σ j (bindT' r mu x o q)) (hf : folL folPart q=true)
  (K : ∀ s p' σ',Sp p' d→Wst σ' j q→UpdW j σ σ'→Q (.d (.tup [.str [110,97,109,101],.int s,.str x,.bool r,.bool mu,p'])) σ') : Cl n .readBinding [.w (j + 1)] σ E Q:=def_k hn rfl fun m hm=>by
 have h2 : 2≤m:=dl (tl hm) rfl
 have st3 : ∀ {s : Int} {σ2},Wst σ2 j (.nm x :: innT o q)→UpdW j σ σ2→wSs Bx (Cl m) ((F .readBinding).body.drop 5) (Nd σ.length Q) (Jd σ.length E Q) [some (.w (j + 1)),some (.d (.int s)),some (.d (.bool r)),some (.d (.bool mu)),none,none] σ2:=fun {s σ2} w2 u2=>w_name h2 w2 (kw_bind hx) fun _ σ3 w3 u3=>by
  have uu:=u2.trans u3
  cases o with
  | none=>exact fol_hd hf fun c q' e h=>w_looks h2 (e ▸ w3) rfl (nt (a2 (a1 h))) (zd uu.len (K _ _ _ (by rw [show d=.none from hi]; exact Sp.leaf rfl) w3 uu))
  | some ts=>exact w_looks1 h2 w3 rfl rfl (w_take h2 w3 rfl rfl fun _ σ4 w4 u4=>(show PTp k ts d from hi).rd m (tr hm) w4 hf fun p' σ5 p5 w5 u5=>
    have uu:=(uu.trans u4).trans u5
    zd uu.len (K _ p' _ p5 w5 uu))
 have st2 : ∀ {s : Int} {σ1},Wst σ1 j (mutT mu (.nm x :: innT o q))→UpdW j σ σ1→wSs Bx (Cl m) ((F .readBinding).body.drop 3) (Nd σ.length Q) (Jd σ.length E Q) [some (.w (j + 1)),some (.d (.int s)),some (.d (.bool r)),none,none,none] σ1:=fun {s σ1} w1 u1=>by
  cases mu with
  | true=>exact w_looks1 h2 w1 rfl rfl (w_take h2 w1 rfl rfl fun _ σ2 w2 u2=>st3 w2 (u1.trans u2))
  | false=>exact w_looks1 h2 w1 rfl (bind_lk hx rfl) (st3 w1 u1)
 cases r with
 | true=>exact w_peek (tl h2) hw rfl fun s=>w_looks1 h2 hw rfl rfl (w_take h2 hw rfl rfl fun _ σ1 w1 u1=>st2 w1 u1)
 | false=>cases mu with
  | true=>exact w_peek (tl h2) hw rfl fun s=>w_looks1 h2 hw rfl rfl (st2 hw (.refl _ _))
  | false=>exact w_peek (tl h2) hw rfl fun s=>w_looks1 h2 hw rfl (bind_lk hx rfl) (st2 hw (.refl _ _))
theorem bind_hd {p : Tk→Bool} (h1 : p (.nm [114,101,102])=true) (h2 : r=false→mu=true→p (.nm [109,117,116])=true) (h3 : p (.nm x)=true) : Hds p (bindT' r mu x o):=by
 cases r with
 | true=>exact ⟨_,_,fun _=>rfl,h1⟩
 | false=>cases mu with
  | true=>exact ⟨_,_,fun _=>rfl,h2 rfl rfl⟩
  | false=>exact ⟨_,_,fun _=>rfl,h3⟩
theorem PTp.name (hx : bindNames.contains x=true) (hi : InnP k o d) : PTp (k + 5) (bindT' r mu x o) (bindD x r mu d):=by
 have l : ∀ {y},noNames.contains y=true→lk (.nm x) y=false:=bind_lk hx
 refine ⟨fun n hn {σ j q} hw hf E Q K=>def_k hn rfl fun m hm=>?_,bind_hd rfl (fun _ _=>rfl) (by unfold ptH; rw [l rfl,l rfl]; rfl),fun p _=>p (bind_hd rfl (fun _ _=>rfl) (congrArg not (l rfl))),rfl⟩
 have h2 : 2≤m:=dl (tl hm) rfl
 have fin : Cl m .readBinding [.w (j + 1)] σ (fun τ=>E (τ.take σ.length)) (fun v σ'=>Zd σ.length Q false v σ'):=w_bind hx hi hm hw hf fun s p' σ' p w u=>zd u.len (K _ _ (Sp.spot (.leaf rfl (.leaf rfl (.leaf rfl (p .nil))))) w u)
 cases r with
 | true=>exact w_peek (tl h2) hw rfl fun s=>w_looks1 h2 hw rfl rfl (w_looks1 h2 hw rfl rfl (w_looks1 h2 hw rfl rfl (w_looks1 h2 hw rfl rfl (w_looks1 h2 hw rfl rfl (w_looks1 h2 hw rfl rfl (w_looks1 h2 hw rfl rfl (w_looks1 h2 hw rfl rfl fin)))))))
 | false=>cases mu with
  | true=>exact w_peek (tl h2) hw rfl fun s=>w_looks1 h2 hw rfl rfl (w_looks1 h2 hw rfl rfl (w_looks1 h2 hw rfl rfl (w_looks1 h2 hw rfl rfl (w_looks1 h2 hw rfl rfl (w_looks1 h2 hw rfl rfl (w_looks1 h2 hw rfl rfl (w_looks1 h2 hw rfl rfl (w_looks1 h2 hw rfl rfl fin))))))))
  | false=>
   have go : ∀ t2 q',innT o q=t2 :: q'→alB t2=true→wSs Bx (Cl m) (F .readPart).body (Nd σ.length Q) (Jd σ.length E Q) [some (.w (j + 1)),none,none] σ:=fun t2 q' e ha=>
    w_peek (tl h2) hw rfl fun s=>w_looks1 h2 hw rfl (l rfl) (w_looks1 h2 hw rfl (l rfl) (w_looks1 h2 hw rfl (l rfl) (w_looks1 h2 hw rfl (l rfl) (w_looks1 h2 hw rfl (l rfl) (w_looks1 h2 hw rfl (l rfl) (w_looks1 h2 hw rfl (l rfl) (w_looks1 h2 hw rfl (l rfl) (w_looks1 h2 hw rfl (l rfl)
     (w_plain (tl h2) (kw_bind hx) (w_alone (t:=.nm x) (dl (tl hm) rfl) (e ▸ (show Wst σ j (.nm x :: innT o q) from hw)) rfl rfl ha fin))))))))))
   cases o with
   | none=>exact fol_hd hf fun c q' e h=>go c q' e (by unfold alB; rw [nt (a1 (a1 (a1 (a1 h)))),nt (a2 (a1 (a1 (a1 h)))),nt (a2 (a1 (a1 h)))]; rfl)
   | some ts=>exact go _ _ rfl rfl
theorem PTp.nameH (hx : bindNames.contains x=true) (h : r=true∨mu=false) : Hds refH (bindT' r mu x o):=bind_hd rfl (fun e1 e2=>by rw [e1,e2] at h; exact h.elim nofun nofun) (by unfold refH ptH; rw [bind_lk hx rfl,bind_lk hx rfl,bind_lk hx rfl]; rfl)
end
end Mine
namespace Mine
theorem rowH2 {x : List Nat} {p : D} (h : isT p=true) : rowH [.str x,p]=true:=by cases p <;> first | rfl | cases h
theorem Sp.none_el {p : D} (h : Sp p .none) : p=.none:=by
 have:=h .nil
 generalize hb : [D.none]=b at this
 generalize ha : [p]=a at this
 cases this with
 | nil=>cases ha
 | leaf=>cases ha; cases hb; rfl
 | _=>cases hb
theorem Sp.pair {x : List Nat} {p' p : D} (h : Sp p' p) (k : isT p=true) : Sp (.tup [.str x,p']) (.tup [.str x,p]):=
 have s : Sps [.str x,p'] [.str x,p]:=.leaf rfl (h .nil)
 Sp.row s (s.rowH_eq.trans (rowH2 k))
noncomputable def folFd (h : Tk) : Bool:=folPat h && !(lk h [58])
noncomputable def fdH (t : Tk) : Bool:=!(lk t [125]) && !(lk t [46,46])
noncomputable abbrev FldP (k : Nat) (ts : TL) (d : D) : Prop:=Itm k .readField folFd fdH ts d
section
variable {k n m j p : Nat} {σ₀ σ : Store} {r : List Tk} {ts : TL} {t d : D} {E : Ke} {Q : Kv} {N : Kn} {J : J} {x y : List Nat} {s : Int} {rf mu b : Bool}
theorem bind_fd (h : bindNames.contains x=true) : fdH (.nm x)=true:=by
 have : ∀ x∈bindNames,fdH (.nm x)=true:=by decide +kernel
 exact this x (mem_c h)
theorem FldP.name (hx : bindNames.contains x=true) (hp : PQp k ts d) : FldP (k + 3) (fun r=>.nm x :: .sg [58] :: ts r) (.tup [.str x,d]) where
 rd n hn {σ j r} hw hf E Q q:=def_k hn rfl fun m hm=>have h2 : 2≤m:=tl hm
  w_peek (tl h2) hw rfl fun s=>w_plain (tl h2) (kw_bind hx) (w_looks2 h2 hw rfl rfl rfl rfl (w_take h2 hw rfl rfl fun _ σ1 w1 u1=>w_take h2 w1 rfl rfl fun _ σ2 w2 u2=>
   hp.rd m (tr hm) w2 (fol_imp hf fun t h=>a1 h) fun p' σ3 p3 w3 u3=>have uu:=(u1.trans u2).trans u3; zd uu.len (q _ _ (p3.pair hp.it) w3 uu)))
 hd:=⟨_,_,fun _=>rfl,bind_fd hx⟩
 it:=rfl
theorem FldP.num (hp : PQp k ts d) : FldP (k + 4) (fun r=>.nb x 0 .none :: .sg [58] :: ts r) (.tup [.str [48],d]) where
 rd n hn {σ j r} hw hf E Q q:=def_k hn rfl fun m hm=>have h3 : 3≤m:=tl hm
  w_peek (tl h3) hw rfl fun s=>w_take (tl h3) hw rfl rfl fun _ σ1 w1 u1=>w_expect h3 w1 rfl fun _ σ2 w2 u2=>
   hp.rd m (tr hm) w2 (fol_imp hf fun t h=>a1 h) fun p' σ3 p3 w3 u3=>have uu:=(u1.trans u2).trans u3; zd uu.len (q _ _ (p3.pair hp.it) w3 uu)
 hd:=⟨_,_,fun _=>rfl,rfl⟩
 it:=rfl
theorem FldP.short (hx : bindNames.contains x=true) : FldP (k + 6) (bindT' rf mu x none) (.tup [.str x,bindD x rf mu .none]) where
 rd n hn {σ j r} hw hf E Q q:=def_k hn rfl fun m hm=>by
  have h2 : 2≤m:=dl (tl hm) rfl
  have hfp : folL folPart r=true:=fol_imp hf fun t h=>a1 (a1 h)
  have fin : ∀ {v : V},wSs Bx (Cl m) ((F .readField).body.drop 3) (Nd σ.length Q) (Jd σ.length E Q) [some (.w (j + 1)),some v,none] σ:=w_bind (o:=none) hx rfl (Nat.le_of_succ_le hm) hw hfp fun s p' σ1 p1 w1 u1=>by
   have e:=p1.none_el
   subst e
   exact zd u1.len (q _ _ (Sp.pair (Sp.spot (.leaf rfl (.leaf rfl (.leaf rfl (.leaf rfl .nil))))) rfl) w1 u1)
  cases rf with
  | true=>exact w_peek (tl h2) hw rfl fun s=>w_plain (tl h2) (b:=true) (by decide +kernel) fin
  | false=>cases mu with
   | true=>exact w_peek (tl h2) hw rfl fun s=>w_plain (tl h2) (b:=true) (by decide +kernel) fin
   | false=>exact fol_hd hf fun c q' e h=>w_peek (tl h2) hw rfl fun s=>w_plain (tl h2) (kw_bind hx) (w_looks2 (t:=.nm x) h2 (e ▸ (show Wst σ j (.nm x :: r) from hw)) rfl rfl rfl (nt (a2 h)) fin)
 hd:=bind_hd rfl (fun _ _=>rfl) (bind_fd hx)
 it:=rfl
theorem w_places (its : List (TL × D)) (hI : ∀ p∈its,PQp k p.1 p.2) (last : Bool) (hl : its.length≤1000) (hn : k + 4≤n) (hw : Wst σ j (.sg [40] :: rwT (plist its) last (.sg [41] :: r))) (q : ∀ t' σ',Sp t' (.tup (dlist its))→Wst σ' j r→UpdW j σ σ'→Q (.d t') σ') : Cl n .readPlaces [.w (j + 1)] σ E Q:=
 def_k hn rfl fun m hm=>have h2 : 2≤m:=dl (tl hm) rfl
  w_expect (tl hm) hw rfl fun _ σ1 w1 u1=>
  have hj:=w1.lt
  have hp : σ.length≤σ1.length:=Nat.le_of_eq u1.len.symm
  row_loop (b:=true) (fr:=fun _=>[some (.w (j + 1)),some (.l σ1.length)]) (Inv:=RowI j σ1.length σ) (P:=PQp k) (close:=.sg [41] :: r)
   (fun i _ q=>w_looks1 h2 i.w rfl rfl q)
   (fun h i _ q=>h.hd.el i.w fun t0 r0 ht hw=>w_looks h2 hw rfl (nt ht) q)
   (fun h hl i _ _ q=>ls i.li (h.rd m (tr hm) i.w rfl fun d' σ1 p1 w1 u1=>have i1:=i.upd hj u1 w1
    ls i1.li (bt (fit_snoc hl) (w_looks1 h2 (i1.push hj hp).w rfl rfl (w_take h2 (i1.push hj hp).w rfl rfl fun _ σ2 w2 u2=>q d' σ2 p1 ((i1.push hj hp).upd hj u2 w2))))))
   (fun h hl i _ _ q=>ls i.li (h.rd m (tr hm) i.w rfl fun d' σ1 p1 w1 u1=>have i1:=i.upd hj u1 w1
    ls i1.li (bt (fit_snoc hl) (w_looks1 h2 (i1.push hj hp).w rfl rfl (q d' _ p1 (i1.push hj hp))))))
   its hI last (acc:=[]) (lw hl) ((Nat.zero_add _).symm ▸ hl) ⟨get_app,w1.app,(ExtW.of u1).app⟩ fun ds' σ2 s2 i2=>w_expect (tl hm) i2.w rfl fun _ σ3 w3 u3=>
    have i3:=i2.upd hj u3 w3
    with_l (f:=fun d=>tupD d σ3) i3.li (zc (q _ _ (Sp.row s2 (s2.rowT (all_it hI))) (i3.w.cut hw.lt) i3.x.cut))
noncomputable def fldBody : List S:=[.if_ (.wm .wLooks (.v 0) [(.c (.str [46,46]))]) [.ex (.wm .wTake (.v 0) []),.asg 2 (.c (.bool true)),.brk] [],.app 1 (.call .readField [(.v 0)]),.if_ (.not (.wm .wLooks (.v 0) [(.c (.str [44]))])) [.brk] [],.ex (.wm .wTake (.v 0) [])]
noncomputable def fldT (its : List TL) (rest last : Bool) : TL:=fun r=>if rest then its.foldr (fun x r=>x (.sg [44] :: r)) (.sg [46,46] :: r) else rwT its last r
theorem fld_item {acc : List D} (hk : k≤m) (h2 : 2≤m) (hj : j + 1 < p) (hp : σ₀.length≤p) (h : FldP k ts d) (hl : acc.length < 1000) {c : Tk} (hc : folFd c=true) (i : RowI j p σ₀ acc (ts (c :: r)) σ) {v : V}
  (q : ∀ d' σ',Sp d' d→RowI j p σ₀ (acc ++ [d']) (c :: r) σ'→N [some (.w (j + 1)),some (.l p),some v] σ') :
  wSs Bx (Cl m) (fldBody.take 2) N J [some (.w (j + 1)),some (.l p),some v] σ:=
 h.hd.el i.w fun t0 r0 ht hw=>w_looks h2 hw rfl (nt (a2 ht)) (ls i.li (h.rd m hk i.w hc fun d' σ1 p1 w1 u1=>have i1:=i.upd hj u1 w1
  ls i1.li (bt (fit_snoc hl) (q d' _ p1 (i1.push hj hp)))))
noncomputable def fldTst : X:=.not (.wm .wLooks (.v 0) [(.c (.str [125]))])
theorem fld_rest (hk : k≤m) (h2 : 2≤m) (hj : j + 1 < p) (hp : σ₀.length≤p) : ∀ (its : List (TL × D)) {acc : List D} {W σ},(∀ p∈its,FldP k p.1 p.2)→its.length < W→acc.length + its.length≤1000→RowI j p σ₀ acc (fldT (plist its) true true r) σ →
  (∀ ds' σ',Sps ds' (dlist its)→RowI j p σ₀ (acc ++ ds') r σ'→N [some (.w (j + 1)),some (.l p),some (.d (.bool true))] σ') →
  Bx (wWhile (wX Bx (Cl m) fldTst).t (wSs Bx (Cl m) fldBody) N J W [some (.w (j + 1)),some (.l p),some (.d (.bool false))] σ):=by
 intro its
 induction its with
 | nil=>
  intro acc W σ _ hW hl i q
  exact while_go hW fun V _=>w_looks1 h2 i.w rfl rfl (w_looks1 h2 i.w rfl rfl (w_take h2 i.w rfl rfl fun _ σ1 w1 u1=>q [] σ1 .nil ((List.append_nil acc).symm ▸ i.upd hj u1 w1)))
 | cons x its ih=>
  intro acc W σ hI hW hl i q
  exact while_go hW fun V hV=>(hI _ (.head _)).hd.el i.w fun t0 r0 ht hw=>w_looks h2 hw rfl (nt (a1 ht)) (fld_item (N:=wSs Bx (Cl m) (fldBody.drop 2) (wWhile (wX Bx (Cl m) fldTst).t (wSs Bx (Cl m) fldBody) N J V) ⟨N,J.Z,J.E⟩) hk h2 hj hp (hI _ (.head _)) (Nat.lt_of_lt_of_le (Nat.lt_add_of_pos_right (Nat.succ_pos _)) hl) rfl i fun d' σ1 p1 i1=>
   w_looks1 h2 i1.w rfl rfl (w_take h2 i1.w rfl rfl fun _ σ2 w2 u2=>Bx.h (ih (fun p hp=>hI p (.tail _ hp)) hV (by rw [List.length_append,Nat.add_assoc,Nat.add_comm [d'].length]; exact hl) (i1.upd hj u2 w2)
    fun ds' σ' s i=>q (d' :: ds') σ' (p1 s) (by rw [List.append_assoc] at i; exact i))))
theorem w_fields (its : List (TL × D)) (hI : ∀ p∈its,FldP k p.1 p.2) (rest last : Bool) (hl : its.length≤1000) (hn : k + 4≤n) (hw : Wst σ j (.sg [123] :: fldT (plist its) rest last (.sg [125] :: r)))
  (q : ∀ ds' σ',Sp (.tup ds') (.tup (dlist its))→Wst σ' j r→UpdW j σ σ'→Q (.d (.tup [.tup ds',.bool rest])) σ') : Cl n .readFields [.w (j + 1)] σ E Q:=
 def_k hn rfl fun m hm=>have h2 : 2≤m:=dl (tl hm) rfl
  w_expect (tl hm) hw rfl fun (s : Int) σ1 w1 u1=>by
  have hj:=w1.lt
  have hp : σ.length≤σ1.length:=Nat.le_of_eq u1.len.symm
  have i1 : RowI j σ1.length σ [] (fldT (plist its) rest last (.sg [125] :: r)) (σ1 ++ [.lst []]):=⟨get_app,w1.app,(ExtW.of u1).app⟩
  have fin : ∀ ds' σ2,Sps ds' (dlist its)→RowI j σ1.length σ ([] ++ ds') (.sg [125] :: r) σ2→wSs Bx (Cl m) ((F .readFields).body.drop 3) (Nd σ.length Q) (Jd σ.length E Q) [some (.w (j + 1)),some (.l σ1.length),some (.d (.bool rest))] σ2:=fun ds' σ2 s2 i2=>
   w_expect (tl hm) i2.w rfl fun _ σ3 w3 u3=>have i3:=i2.upd hj u3 w3
    with_l (f:=fun d=>tupD d σ3) i3.li (zc (q _ _ (Sp.row s2 (s2.rowT (all_it hI))) (i3.w.cut hw.lt) i3.x.cut))
  cases rest with
  | true=>exact fld_rest (tr hm) h2 hj hp its hI (lw hl) ((Nat.zero_add _).symm ▸ hl) i1 fin
  | false=>
   exact row_loop (b:=true) (fr:=fun _=>[some (.w (j + 1)),some (.l σ1.length),some (.d (.bool false))]) (Inv:=RowI j σ1.length σ) (P:=FldP k) (close:=.sg [125] :: r)
    (fun i _ q=>w_looks1 h2 i.w rfl rfl q)
    (fun h i _ q=>h.hd.el i.w fun t0 r0 ht hw=>w_looks h2 hw rfl (nt (a1 ht)) q)
    (fun {x d more b acc τ} h hl i N' B q=>fld_item (N:=wSs Bx (Cl m) (fldBody.drop 2) N' ⟨B,_,_⟩) (tr hm) h2 hj hp h hl rfl i fun d' σ1 p1 i1=>w_looks1 h2 i1.w rfl rfl (w_take h2 i1.w rfl rfl fun _ σ2 w2 u2=>q d' σ2 p1 (i1.upd hj u2 w2)))
    (fun {x d b acc τ} h hl i N' B q=>fld_item (N:=wSs Bx (Cl m) (fldBody.drop 2) N' ⟨B,_,_⟩) (tr hm) h2 hj hp h hl rfl i fun d' σ1 p1 i1=>w_looks1 h2 i1.w rfl rfl (q d' _ p1 i1))
    its hI last (acc:=[]) (lw hl) ((Nat.zero_add _).symm ▸ hl) i1 fin
end
end Mine
namespace Mine
section
variable {k n m j p : Nat} {σ₀ σ : Store} {r : List Tk} {ts q : TL} {t d : D} {ds : List D} {E : Ke} {Q : Kv} {N : Kn} {J : J} {x y : List Nat} {s : Int} {rest last : Bool}
theorem PTp.ofVar (hx : nmB true x=true) (hq : headNames.contains x=true∨∀ r,∃ t2 z,q r=t2 :: z∧alB t2=false) (hk : 3≤k) (rd : RdF .readVariant k folPart [] (fun r=>.nm x :: q r) d) (it : isT d=true) : PTp (k + 1) (fun r=>.nm x :: q r) d∧Hds refH (fun r=>.nm x :: q r):=by
 have l : ∀ {y},noNames.contains y=true→lk (.nm x) y=false:=nm_lk hx
 have hp : ptH (.nm x)=true:=by unfold ptH; rw [l rfl,l rfl]; rfl
 refine ⟨.of (fun n hn {σ j r} hw hf E Q K=>def_k hn rfl fun m hm=>?_) hp (congrArg not (l rfl)) it,⟨_,_,fun _=>rfl,by unfold refH; rw [hp,l rfl]; rfl⟩⟩
 have h3:=Nat.le_trans hk hm
 have h2 : 2≤m:=tl h3
 have fin : Cl m .readVariant [.w (j + 1)] σ (fun τ=>E (τ.take σ.length)) (fun v σ'=>Zd σ.length Q false v σ'):=rd m hm hw hf fun p' σ' p w u=>zd u.len (K _ _ p w u)
 refine w_peek (tl h2) hw rfl fun s=>w_looks1 h2 hw rfl (l rfl) (w_looks1 h2 hw rfl (l rfl) (w_looks1 h2 hw rfl (l rfl) (w_looks1 h2 hw rfl (l rfl) (w_looks1 h2 hw rfl (l rfl) (w_looks1 h2 hw rfl (l rfl) (w_looks1 h2 hw rfl (l rfl) (w_looks1 h2 hw rfl (l rfl) (w_looks1 h2 hw rfl (l rfl) ?_))))))))
 cases h : headNames.contains x with
 | true=>exact w_plain (tl h2) (kw_head h) (w_plain (tl h2) (kw_head h) (b1t (head_w h) fin))
 | false=>
  rw [h] at hq
  have hpl : plainNames.contains x=true:=nm_el hx id fun _ h'=>by rw [h] at h'; cases h'
  exact (hq.elim nofun fun hq=>hq r).elim fun t2 h=>h.elim fun z h=>w_plain (tl h2) (plain_w hpl).2 (w_alone (t:=.nm x) h3 (h.1 ▸ (show Wst σ j (.nm x :: q r) from hw)) rfl rfl h.2 (w_plain (tl h2) (plain_w hpl).2 fin))
theorem var_pk {ts' : List Tk} (hp : PathP k true ts ds) (hn : 1≤n) (hw : Wst σ j (ts ts')) (K : ∀ t s,Q (.d (rowD t s)) σ) : Wd σ (j + 1) fun _ _=>Cl n .wPeek [.w (j + 1)] σ E Q:=hp.hd fun x q hx e _=>by
 subst e; exact w_peek hn hw rfl fun s=>K _ s
theorem VarP.bare (hp : PathP k true ts ds) (hb : ∀ x,ds=[.tup [.str x,.tup [],.tup []]]→headNames.contains x=true) : PTp (k + 10) ts (.tup [.str [118,97,114,105,97,110,116],.int 0,.tup ds,.tup []])∧Hds refH ts:=by
 refine hp.hd fun x q hx e hs=>?_
 have rd : RdF .readVariant (k + 9) folPart [] ts (.tup [.str [118,97,114,105,97,110,116],.int 0,.tup ds,.tup []]):=fun n hn {σ j r} hw hf E Q K=>def_k hn rfl fun m hm=>have h2 : 2≤m:=dl (tl hm) rfl
  var_pk hp (tl h2) hw fun t s=>hp.rd m hm hw (fol_imp hf fun t h=>by unfold folP; rw [a1 (a1 (a1 (a1 h)))]; rfl) fun t' σ1 p1 w1 u1=>fol_hd hf fun c q' e h=>
   w_looks h2 (e ▸ w1) rfl (nt (a2 (a1 (a1 (a1 h))))) (w_looks h2 (e ▸ w1) rfl (nt (a2 (a1 (a1 h)))) (zd u1.len (K _ _ (Sp.spot (p1 (.row rfl .nil .nil))) w1 u1)))
 subst e
 refine PTp.ofVar hx ?_ (Nat.le_add_left 3 _) rd rfl
 rcases hs rfl with ⟨h,h'⟩ | ⟨z,h⟩
 ·subst h; exact .inl (hb x h')
 ·subst h; exact .inr fun r=>⟨_,_,rfl,rfl⟩
theorem app_hd {x : List Nat} {q : TL} {t2 : Tk} {z : TL} (hs : true=true→q=id∧ds=[.tup [.str x,.tup [],.tup []]]∨∃ z : TL,q=fun r=>.sg [58,58] :: z r) (ht : alB t2=false) : headNames.contains x=true∨∀ r,∃ t2' z',q (t2 :: z r)=t2' :: z'∧alB t2'=false:=.inr fun r=>by
 rcases hs rfl with ⟨h,_⟩ | ⟨z',h⟩
 ·subst h; exact ⟨t2,z r,rfl,ht⟩
 ·subst h; exact ⟨_,_,rfl,rfl⟩
theorem VarP.places (its : List (TL × D)) (last : Bool) (hp : PathP k true ts ds) (hI : ∀ p∈its,PQp k p.1 p.2) (hl : its.length≤1000) : PTp (k + 10) (fun r=>ts (.sg [40] :: rwT (plist its) last (.sg [41] :: r))) (.tup [.str [118,97,114,105,97,110,116],.int 0,.tup ds,.tup (dlist its)])∧Hds refH (fun r=>ts (.sg [40] :: rwT (plist its) last (.sg [41] :: r))):=by
 refine hp.hd fun x q hx e hs=>?_
 have rd : RdF .readVariant (k + 9) folPart [] (fun r=>ts (.sg [40] :: rwT (plist its) last (.sg [41] :: r))) (.tup [.str [118,97,114,105,97,110,116],.int 0,.tup ds,.tup (dlist its)]):=fun n hn {σ j r} hw hf E Q K=>def_k hn rfl fun m hm=>have h2 : 2≤m:=dl (tl hm) rfl
  var_pk hp (tl h2) hw fun t s=>hp.rd m hm hw rfl fun t' σ1 p1 w1 u1=>w_looks1 h2 w1 rfl rfl (w_places its hI last hl (tk hm rfl) w1 fun t2 σ2 p2 w2 u2=>zd (u1.trans u2).len (K _ _ (Sp.spot (p1 (p2 .nil))) w2 (u1.trans u2)))
 subst e
 exact PTp.ofVar hx (app_hd (z:=fun r=>rwT (plist its) last (.sg [41] :: r)) hs rfl) (Nat.le_add_left 3 _) rd rfl
theorem VarP.fields (its : List (TL × D)) (rest last : Bool) (hp : PathP k true ts ds) (hI : ∀ p∈its,FldP k p.1 p.2) (hl : its.length≤1000) : PTp (k + 10) (fun r=>ts (.sg [123] :: fldT (plist its) rest last (.sg [125] :: r))) (.tup [.str [102,105,101,108,100,115],.int 0,.tup ds,.tup (dlist its),.bool rest])∧Hds refH (fun r=>ts (.sg [123] :: fldT (plist its) rest last (.sg [125] :: r))):=by
 refine hp.hd fun x q hx e hs=>?_
 have rd : RdF .readVariant (k + 9) folPart [] (fun r=>ts (.sg [123] :: fldT (plist its) rest last (.sg [125] :: r))) (.tup [.str [102,105,101,108,100,115],.int 0,.tup ds,.tup (dlist its),.bool rest]):=fun n hn {σ j r} hw hf E Q K=>def_k hn rfl fun m hm=>have h2 : 2≤m:=dl (tl hm) rfl
  var_pk hp (tl h2) hw fun t s=>hp.rd m hm hw rfl fun t' σ1 p1 w1 u1=>w_looks1 h2 w1 rfl rfl (w_looks1 h2 w1 rfl rfl (w_fields its hI rest last hl (tk hm rfl) w1 fun ds' σ2 p2 w2 u2=>zd (u1.trans u2).len (K _ _ (Sp.spot (p1 (p2 (.leaf rfl .nil)))) w2 (u1.trans u2))))
 subst e
 exact PTp.ofVar hx (app_hd (z:=fun r=>fldT (plist its) rest last (.sg [125] :: r)) hs rfl) (Nat.le_add_left 3 _) rd rfl
end
end Mine
namespace Mine
section
variable {k n m j p V : Nat} {σ : Store} {T S a b s l : List Nat} {c : Nat} {E : Ke} {Q : Kv} {N : Kn} {J : J} {P P' : Prop}
theorem drop_app (h : T.drop p=a ++ b) : T.drop (p + a.length)=b:=by
 rw [← List.drop_drop,h]; exact List.drop_left
theorem drop_one (h : T.drop p=c :: b) : T.drop (p + 1)=b:=drop_app (a:=[c]) h
theorem tlt (h : T.drop p=c :: s) : decide ((p : Int) < (T.length : Int))=true:=decide_eq_true (Int.ofNat_lt.mpr (drop_head h).2.1)
theorem tge (h : T.drop p=[]) : decide ((p : Int) < (T.length : Int))=false:=decide_eq_false fun h'=>Nat.not_lt_of_le (List.drop_eq_nil_iff.mp h) (Int.ofNat_lt.mp h')
theorem ixs (h : T.drop p=c :: s) (q : Q (.d (.str [c])) σ) : Ok (idxV σ (.d (.str T)) (.d (.int (p : Int)))) Q:=by
 show Ok (match (pyIdx T.length (p : Int)).bind (T[·]?) with | some c=>.ok (.d (.str [c])) σ | none=>.no) Q
 rw [pyIdx_nat (drop_head h).2.1]
 show Ok (match T[p]? with | some c=>.ok (.d (.str [c])) σ | none=>.no) Q
 rw [(drop_head h).1]; exact q
theorem cut_lo {α : Type} (T : List α) (p k : Nat) : cut T (p : Int) (some ((p : Int) + (k : Int)))=(T.drop p).take k:=by
 show (T.take (p + k)).drop p=_
 rw [List.drop_take,Nat.add_sub_cancel_left]
theorem sls (k : Nat) (h : T.drop p=s) (q : Q (.d (.str (s.take k))) σ) : Ok (slT σ (.d (.str T)) (p : Int) ((p : Int) + (k : Int))) Q:=by
 unfold slT slV
 rw [show (decide ((0 : Int)≤(p : Int)) && decide ((0 : Int)≤(some ((p : Int) + (k : Int))).getD 0))=true from Bool.and_eq_true_iff.mpr ⟨decide_eq_true (Int.natCast_nonneg p),decide_eq_true (Int.natCast_nonneg (p + k))⟩]
 show Ok (.ok (.d (.str (cut T (p : Int) (some ((p : Int) + (k : Int)))))) σ) Q
 rw [cut_lo,h]; exact q
theorem slx {z : Int} (h : T.drop p=a ++ b) (e : z=((p + a.length : Nat) : Int)) (q : Q (.d (.str a)) σ) : Ok (slT σ (.d (.str T)) (p : Int) z) Q:=by
 rw [e]; exact sls a.length h ((List.take_left (l₁:=a) (l₂:=b)).symm ▸ q)
noncomputable def offS (S : List Nat) : List Nat→Bool
 | []=>true
 | c :: _=>!S.contains c
noncomputable def runT : X:=.bop true [(.cmp .lt (.v 1) (.prim .len false [(.v 0)])),(.cmp .isIn (.idx (.v 0) (.v 1)) (.v 2))]
theorem run_stop (hV : 1≤V) (h : T.drop p=b) (hb : offS S b=true) (q : N [some (.d (.str T)),some (.d (.int (p : Int))),some (.d (.str S))] σ) :
  Bx (wWhile (wX Bx (Cl m) runT).t (wSs Bx (Cl m) [.aug 1 (.c (.int 1))]) N J V [some (.d (.str T)),some (.d (.int (p : Int))),some (.d (.str S))] σ):=
 while_go hV fun _ _=>by
  cases b with
  | nil=>exact b1f (tge h) q
  | cons c b=>exact b1t (tlt h) (ixs h (b1f (nt hb) q))
theorem run_step (hV : k + 1≤V) (h : T.drop p=c :: b) (hc : S.contains c=true) (q : ∀ V,k≤V→Bx (wWhile (wX Bx (Cl m) runT).t (wSs Bx (Cl m) [.aug 1 (.c (.int 1))]) N J V [some (.d (.str T)),some (.d (.int ((p + 1 : Nat) : Int))),some (.d (.str S))] σ)) :
  Bx (wWhile (wX Bx (Cl m) runT).t (wSs Bx (Cl m) [.aug 1 (.c (.int 1))]) N J V [some (.d (.str T)),some (.d (.int (p : Int))),some (.d (.str S))] σ):=
 while_go hV fun V hV=>b1t (tlt h) (ixs h (b1t hc (q V hV).h))
theorem run_loop (hb : offS S b=true) : ∀ (a : List Nat) {p V},T.drop p=a ++ b→a.all S.contains=true→a.length + 1≤V→(∀ p',p'=p + a.length→N [some (.d (.str T)),some (.d (.int (p' : Int))),some (.d (.str S))] σ) →
  Bx (wWhile (wX Bx (Cl m) runT).t (wSs Bx (Cl m) [.aug 1 (.c (.int 1))]) N J V [some (.d (.str T)),some (.d (.int (p : Int))),some (.d (.str S))] σ)
 | [],p,V,h,_,hV,q=>run_stop hV h hb (q p rfl)
 | c :: a,p,V,h,hS,hV,q=>run_step hV h (a1 hS) fun V hV=>run_loop hb a (drop_one h) (a2 hS) hV fun p' e=>q p' (e.trans (Nat.succ_add_eq_add_succ p a.length))
theorem w_run (hn : 1≤n) (h : T.drop p=a ++ b) (ha : a.all S.contains=true) (hb : offS S b=true) (hl : a.length < WW) (q : Q (.d (.int ((p + a.length : Nat) : Int))) σ) : Cl n .runEnd [.d (.str T),.d (.int (p : Int)),.d (.str S)] σ E Q:=
 def_k hn rfl fun m hm=>run_loop hb a h ha hl fun p' e=>zd rfl (e ▸ q)
noncomputable def remark : List Nat:=[47,42,32,62,32,42,47]
theorem w_remark (hn : 1≤n) (h : T.drop p=remark ++ s) (q : Q (.d (.int ((p + 7 : Nat) : Int))) σ) : Cl n .remarkEnd [.d (.str T),.d (.int (p : Int))] σ E Q:=
 have h0 : T.drop p=47 :: 42 :: 32 :: 62 :: 32 :: 42 :: 47 :: s:=h
 have h1:=drop_one h0
 have h2 : T.drop (p + 2)=_:=drop_one h1
 have h3 : T.drop (p + 3)=_:=drop_one h2
 have h4 : T.drop (p + 4)=_:=drop_one h3
 have h5 : T.drop (p + 5)=_:=drop_one h4
 def_k hn rfl fun m hm=>while_go (k:=6) (lw (by decide)) fun V hV=>br_t (tlt h0) (sls 2 h0
  (Bx.h (while_go hV fun V hV=>br_t (tlt h2) (sls 2 h2 (sls 2 h2
  (Bx.h (while_go hV fun V hV=>br_t (tlt h3) (sls 2 h3 (sls 2 h3
  (Bx.h (while_go hV fun V hV=>br_t (tlt h4) (sls 2 h4 (sls 2 h4
  (Bx.h (while_go hV fun V hV=>br_t (tlt h5) (sls 2 h5 (sls 2 h5 (zd rfl q))))))))))))))))))
end
end Mine
namespace Mine
noncomputable def SG : List (List Nat):=[[40],[41],[91],[93],[123],[125],[44],[59],[58],[58,58],[60],[62],[38],[33],[124],[64],[45],[43],[46,46],[46,46,61]]
noncomputable def NB : List (List Nat × Nat × Bool):=[([48],0,false),([51],3,false),([56],8,false),([55],7,false),([49],1,false),([49,50,56],128,false),([53],5,false),([50],2,false),([57],9,false),([48,117,115,105,122,101],0,true),([51,117,115,105,122,101],3,true),([56,117,115,105,122,101],8,true)]
noncomputable def suD (b : Bool) : D:=if b then .str [117,115,105,122,101] else .none
noncomputable def okTk : Tk→Prop
 | .nm l=>∃ c r,l=c :: r∧nbL.contains c=true∧r.all nsL.contains=true
 | .rg l=>∃ c r,l=39 :: c :: r∧fgL.contains c=false∧(c :: r).all nsL.contains=true
 | .nb x v u=>∃ k b,v=(k : Nat)∧u=suD b∧(x,k,b)∈NB
 | .sg x=>x∈SG
 | .en=>False
noncomputable def badS (x : List Nat) : List Nat:=if x=[58] then [58] else if x=[60] then [60,61] else if x=[62] then [61] else if x=[38] then [61] else if x=[33] then [61] else if x=[124] then [124,61] else if x=[45] then [62,61] else if x=[43] then [61] else if x=[46,46] then [61] else []
noncomputable def nxtB (t : Tk) (c : Nat) : Bool:=match t with
 | .sg x=>!(badS x).contains c
 | _=>!(nsL.contains c)
noncomputable def nxT (t : Tk) : List Nat→Bool
 | []=>true
 | c :: _=>nxtB t c
inductive Lex : List Nat→List Tk→Prop
 | nil : Lex [] [.en]
 | blank {c : Nat} {s : List Nat} {ts : List Tk} : c=32∨c=10→Lex s ts→Lex (c :: s) ts
 | remark {s : List Nat} {ts : List Tk} : Lex s ts→Lex (remark ++ s) ts
 | tok {t : Tk} {s : List Nat} {ts : List Tk} : okTk t→nxT t s=true→Lex s ts→Lex (t.tx ++ s) (t :: ts)
noncomputable def hdB (l : List Nat) : Bool:=match l with
 | []=>false
 | c :: _=>!(Nat.beq c 47) && !blL.contains c
theorem tok_hdB {t : Tk} (h : okTk t) : hdB t.tx=true:=by
 cases t with
 | nm l=>
  obtain ⟨c,r,rfl,hc,_⟩:=h
  have : ∀ x∈nbL,hdB [x]=true:=by decide +kernel
  exact this c (List.contains_iff_mem.mp hc)
 | rg l=>obtain ⟨c,r,rfl,_⟩:=h; rfl
 | nb x v u=>
  obtain ⟨k,b,_,_,hm⟩:=h
  have : ∀ q∈NB,hdB q.1=true:=by decide +kernel
  exact this _ hm
 | sg x=>
  have : ∀ q∈SG,hdB q=true:=by decide +kernel
  exact this x h
 | en=>exact h.elim
theorem tok_hd {t : Tk} {T : Prop} (h : okTk t) (k : ∀ c r,t.tx=c :: r→Nat.beq c 47=false→blL.contains c=false→T) : T:=by
 have h:=tok_hdB h
 generalize t.tx=l at h k
 cases l with
 | nil=>cases h
 | cons c r=>exact k c r rfl (nt (a1 h)) (nt (a2 h))
noncomputable def Stop (s : List Nat) (ts : List Tk) : Prop:=∀ ⦃T : Prop⦄,(s=[]→ts=[.en]→T)→(∀ t s2 ts2,s=t.tx ++ s2→ts=t :: ts2→okTk t→nxT t s2=true→Lex s2 ts2→T)→T
section
variable {k n m p : Nat} {σ : Store} {T a b s l : List Nat} {ts : List Tk} {c : Nat} {E : Ke} {Q : Kv}
noncomputable def blT : X:=.cmp .lt (.v 1) (.prim .len false [(.v 0)])
noncomputable def blB : List S:=[.if_ (.cmp .isIn (.idx (.v 0) (.v 1)) (.g .blanks)) [.asg 1 (.call .runEnd [(.v 0),(.v 1),(.g .blanks)])] [.if_ (.cmp .eq (.slLH (.v 0) (.v 1) (.bin .add (.v 1) (.c (.int 2)))) (.c (.str [47,47]))) [.asg 2 .bad,.asg 1 (.ite (.cmp .lt (.v 2) (.c (.int 0))) (.prim .len false [(.v 0)]) (.v 2))] [.if_ (.cmp .eq (.slLH (.v 0) (.v 1) (.bin .add (.v 1) (.c (.int 2)))) (.c (.str [47,42]))) [.asg 1 (.call .remarkEnd [(.v 0),(.v 1)])] [.ret false (.v 1)]]]]
noncomputable def BlW (m : Nat) (σ : Store) (E : Ke) (Q : Kv) (T : List Nat) (V p : Nat) : Prop:=Bx (wWhile (wX Bx (Cl m) blT).t (wSs Bx (Cl m) blB) (wSs Bx (Cl m) [.ret false (.v 1)] (Nd σ.length Q) (Jd σ.length E Q)) (Jd σ.length E Q) V [some (.d (.str T)),some (.d (.int (p : Int))),none] σ)
noncomputable def RnW (m : Nat) (σ : Store) (E : Ke) (Q : Kv) (T : List Nat) (V V' p : Nat) : Prop:=∀ ⦃m' : Nat⦄ ⦃N : Kn⦄ ⦃J : J⦄,(∀ p',BlW m σ E Q T V p'→N [some (.d (.str T)),some (.d (.int (p' : Int))),some (.d (.str blL))] σ)→Bx (wWhile (wX Bx (Cl m') runT).t (wSs Bx (Cl m') [.aug 1 (.c (.int 1))]) N J V' [some (.d (.str T)),some (.d (.int (p : Int))),some (.d (.str blL))] σ)
theorem blank_loop (hm : 1≤m) (hl : Lex s ts) : s.length < WW→∀ {p V},T.drop p=s→s.length < V→(∀ p' s',T.drop p'=s'→s'.length≤s.length→Stop s' ts→Q (.d (.int (p' : Int))) σ)→BlW m σ E Q T V p∧∀ V',s.length < V'→RnW m σ E Q T V V' p:=by
 have off : ∀ {s p V},T.drop p=s→offS blL s=true→BlW m σ E Q T V p→BlW m σ E Q T V p∧∀ V',s.length < V'→RnW m σ E Q T V V' p:=fun hd ho h=>⟨h,fun V' hV' m' N J q=>run_stop (Nat.le_trans (Nat.le_add_left 1 _) hV') hd ho (q _ h)⟩
 induction hl with
 | nil=>exact fun _ {p V} hd hV q=>off hd rfl (while_go hV fun _ _=>br_f (tge hd) (zd rfl (q p [] hd (Nat.le_refl _) fun _ a _=>a rfl rfl)))
 | @blank c s ts hc hl ih=>
  intro hW p V hd hV q
  have hb : blL.contains c=true:=by rcases hc with rfl | rfl <;> rfl
  have ih:=fun {V} hV=>ih (Nat.lt_of_succ_lt hW) (V:=V) (drop_one hd) hV fun p' s' e l=>q p' s' e (Nat.le_succ_of_le l)
  have run : ∀ V V',s.length < V→s.length + 1 < V'→RnW m σ E Q T V V' p:=fun V V' h1 h2 m' N J k=>run_step h2 hd hb fun V'' hV=>(ih h1).2 V'' hV k
  refine ⟨?_,fun V' hV'=>run V V' (Nat.lt_of_succ_lt hV) hV'⟩
  exact while_go hV fun V hV=>br_t (tlt hd) (ixs hd (br_t hb (def_k hm rfl fun m' _=>run V WW hV hW fun p' h=>zd rfl h.h)))
 | @remark s ts hl ih=>
  intro hW p V hd hV q
  have hs : s.length < (Mine.remark ++ s).length:=Nat.lt_add_of_pos_right (k:=7) (Nat.succ_pos _)
  refine off hd rfl (while_go hV fun V hV=>br_t (tlt hd) (ixs hd (sls 2 hd (sls 2 hd (w_remark hm hd ?_)))))
  exact (ih (Nat.lt_trans hs hW) (drop_app (a:=Mine.remark) hd) (Nat.lt_of_lt_of_le hs hV) fun p' s' e l=>q p' s' e (Nat.le_trans l (Nat.le_of_lt hs))).1.h
 | @tok t s ts h1 h2 h3 _=>
  intro hW p V hd hV q
  refine tok_hd h1 fun c r e h47 hb=>?_
  have hd' : T.drop p=c :: (r ++ s):=by rw [hd,e]; rfl
  have ne : ∀ d,((c :: (r ++ s)).take 2 == [47,d])=false:=fun d=>beq_eq_false_iff_ne.mpr fun e=>Nat.ne_of_beq_eq_false h47 (List.cons.inj e).1
  refine off hd (by rw [e]; exact congrArg not hb) (while_go hV fun V hV=>br_t (tlt hd') (ixs hd' (br_f hb (sls 2 hd' (br_f (ne _) (sls 2 hd' (br_f (ne _) (zd rfl (q p _ hd (Nat.le_refl _) fun _ _ b=>b t s ts rfl rfl h1 h2 h3)))))))))
theorem w_blank (hn : 2≤n) (hl : Lex s ts) (hd : T.drop p=s) (hW : s.length < WW) (q : ∀ p' s',T.drop p'=s'→s'.length≤s.length→Stop s' ts→Q (.d (.int (p' : Int))) σ) : Cl n .blankEnd [.d (.str T),.d (.int (p : Int))] σ E Q:=
 def_k hn rfl fun m hm=>(blank_loop hm hl hW hd hW q).1
end
end Mine
namespace Mine
noncomputable def worth (c : Nat) : Int:=if 0≤findC (lowC c) hexL 0 then findC (lowC c) hexL 0 else 99
theorem worth_dig {d : Nat} (h : fgL.contains d=true) : worth d=(d : Int) - 48∧decide (worth d < 10)=true∧([d] == [95])=false:=by
 have : ∀ d∈fgL,worth d=(d : Int) - 48∧decide (worth d < 10)=true∧([d] == [95])=false:=by decide +kernel
 exact this d (List.contains_iff_mem.mp h)
theorem findC_no (c : Nat) : ∀ (l : List Nat) (k : Nat),l.contains c=false→findC c l k=-1
 | [],_,_=>rfl
 | x :: r,k,h=>by
  rw [List.contains_cons,Bool.or_eq_false_iff] at h
  rw [findC,if_neg (by rw [BEq.comm,h.1]; exact Bool.false_ne_true),findC_no c r _ h.2]
theorem off_mem {S l : List Nat} {c : Nat} (h : S.contains c=false) (k : l.all S.contains=true) : l.contains c=false:=by
 cases q : l.contains c with
 | false=>rfl
 | true=>
  have:=List.all_eq_true.mp k c (List.contains_iff_mem.mp q)
  rw [h] at this; cases this
theorem worth_stop {c : Nat} (h : nsL.contains c=false) : decide (worth c < 10)=false∧([c] == [95])=false:=by
 have hl : lowC c=c:=if_neg fun hc=>by
  have : ∀ k,k < 26→nsL.contains (65 + k)=true:=by decide +kernel
  have:=this (c - 65) (by omega)
  rw [Nat.add_sub_cancel' hc.1,h] at this; cases this
 have hw : worth c=99:=by
  unfold worth
  rw [hl,findC_no c _ _ (off_mem h (l:=hexL) rfl)]; rfl
 exact ⟨by rw [hw]; rfl,beq_eq_false_iff_ne.mpr fun e=>by rw [(List.cons.inj e).1] at h; cases h⟩
section
variable {k n m p q V : Nat} {σ : Store} {T a b s s2 sf x : List Nat} {c d : Nat} {E : Ke} {Q : Kv} {N : Kn} {J : J} {v w : Int} {bb : Bool}
theorem w_worth (hn : 1≤n) (q : Q (.d (.int (worth c))) σ) : Cl n .figureWorth [.d (.str [c])] σ E Q:=
 def_k hn rfl fun m hm=>by
  unfold worth at q
  cases h : decide (0≤findC (lowC c) hexL 0) with
  | true=>rw [if_pos (of_decide_eq_true h)] at q; exact br_t h (zd rfl q)
  | false=>rw [if_neg (of_decide_eq_false h)] at q; exact br_f h (zd rfl q)
theorem mul_s {y : Int} (h : (decide (v.natAbs < 1267650600228229401496703205376) && decide (y.natAbs < 1267650600228229401496703205376))=true) (q : Q (.d (.int (v * y))) σ) : Ok (binV σ .mul (.d (.int v)) (.d (.int y))) Q:=by
 show Ok (if (decide (v.natAbs < 1267650600228229401496703205376) && decide (y.natAbs < 1267650600228229401496703205376))=true then .ok (.d (.int (v * y))) σ else .no) Q
 rw [h]; exact q
noncomputable def intT : X:=.bop true [(.cmp .lt (.v 3) (.prim .len false [(.v 0)])),(.bop false [(.cmp .eq (.idx (.v 0) (.v 3)) (.c (.str [95]))),(.cmp .lt (.call .figureWorth [(.idx (.v 0) (.v 3))]) (.v 2))])]
noncomputable def intB : List S:=[.if_ (.cmp .ne (.idx (.v 0) (.v 3)) (.c (.str [95]))) [.asgP [4,5] [(.bin .add (.bin .mul (.v 4) (.v 2)) (.call .figureWorth [(.idx (.v 0) (.v 3))])),(.bin .add (.v 5) (.c (.int 1)))]] [],.aug 3 (.c (.int 1))]
theorem int_step (hm : 1≤m) (hV : k + 1≤V) (hd : T.drop q=d :: s) (hf : fgL.contains d=true) (hv : (decide (v.natAbs < 1267650600228229401496703205376) && decide ((10 : Int).natAbs < 1267650600228229401496703205376))=true)
  (K : ∀ V,k≤V→Bx (wWhile (wX Bx (Cl m) intT).t (wSs Bx (Cl m) intB) N J V [some (.d (.str T)),some (.d (.int (p : Int))),some (.d (.int 10)),some (.d (.int ((q + 1 : Nat) : Int))),some (.d (.int (v * 10 + ((d : Int) - 48)))),some (.d (.int (w + 1))),none,none] σ)) :
  Bx (wWhile (wX Bx (Cl m) intT).t (wSs Bx (Cl m) intB) N J V [some (.d (.str T)),some (.d (.int (p : Int))),some (.d (.int 10)),some (.d (.int (q : Int))),some (.d (.int v)),some (.d (.int w)),none,none] σ):=
 have h:=worth_dig hf
 while_go hV fun V hV=>b1t (tlt hd) (ixs hd (b0f h.2.2 (ixs hd (w_worth hm (b0t h.2.1 (ixs hd (br_t (congrArg not h.2.2) (mul_s hv (ixs hd (w_worth hm (h.1 ▸ (K V hV).h)))))))))))
theorem int_stop (hm : 1≤m) (hV : 1≤V) (hd : T.drop q=s) (hs : offS nsL s=true) (K : N [some (.d (.str T)),some (.d (.int (p : Int))),some (.d (.int 10)),some (.d (.int (q : Int))),some (.d (.int v)),some (.d (.int w)),none,none] σ) :
  Bx (wWhile (wX Bx (Cl m) intT).t (wSs Bx (Cl m) intB) N J V [some (.d (.str T)),some (.d (.int (p : Int))),some (.d (.int 10)),some (.d (.int (q : Int))),some (.d (.int v)),some (.d (.int w)),none,none] σ):=
 while_go hV fun _ _=>by
  cases s with
  | nil=>exact b1f (tge hd) K
  | cons c s=>
   have h:=worth_stop (nt hs)
   exact b1t (tlt hd) (ixs hd (b0f h.2 (ixs hd (w_worth hm (b0f h.1 K)))))
theorem w_base (hn : 1≤n) (hd : T.drop p=d :: s) (hs : ([120,111,98] : List Nat).all (fun c=>offS [c] s)=true) (q : Q (.d (.tup [.int 10,.int (p : Int)])) σ) : Cl n .baseAt [.d (.str T),.d (.int (p : Int))] σ E Q:=
 def_k hn rfl fun m hm=>sls 2 hd (by
  have h : (([([48,120],16),([48,111],8),([48,98],2)] : List (List Nat × Int)).any fun p=>p.1 == (d :: s).take 2)=false:=by
   cases s with
   | nil=>cases h : Nat.beq 48 d <;> simp
   | cons c s=>
    have h1:=nt (a1 hs); have h2:=nt (a1 (a2 hs)); have h3:=nt (a1 (a2 (a2 hs)))
    simp at h1 h2 h3 ⊢
    exact ⟨fun _ e=>h1 e.symm,fun _ e=>h2 e.symm,fun _ e=>h3 e.symm⟩
  exact br_f h (zd rfl q))
theorem int_tail (hm : 1≤m) (hp : T.drop p=x ++ s2) (hd : T.drop q=sf ++ s2) (hlen : q + sf.length=p + x.length) (hsf : sf=if bb then [117,115,105,122,101] else []) (hs : offS nsL s2=true) {w : Nat} (hk : (!(Nat.beq w 0) && Nat.ble w 40)=true)
  (K : Q (.d (.tup [.tup [.str [105,110,116],.str x,.int (p : Int),.int v,suD bb],.int ((p + x.length : Nat) : Int)])) σ) :
  wSs Bx (Cl m) ((F .readInt).body.drop 3) (Nd σ.length Q) (Jd σ.length E Q) [some (.d (.str T)),some (.d (.int (p : Int))),some (.d (.int 10)),some (.d (.int (q : Int))),some (.d (.int v)),some (.d (.int w)),none,none] σ:=by
 refine br_f (beq_eq_false_iff_ne.mpr fun e=>by rw [Int.ofNat.inj e] at hk; cases hk) (br_f (decide_eq_false (Int.not_lt.mpr (Int.ofNat_le.mpr (Nat.le_of_ble_eq_true (a2 hk))))) (w_run (a:=sf) hm hd (by subst hsf; cases bb <;> rfl) hs (by subst hsf; cases bb <;> decide) (slx hd rfl ?_)))
 cases bb with
 | false=>subst hsf; exact slx hp (congrArg Int.ofNat hlen) (zd rfl (by rw [← hlen] at K; exact K))
 | true=>subst hsf; exact slx hp (congrArg Int.ofNat hlen) (zd rfl (by rw [← hlen] at K; exact K))
end
end Mine
namespace Mine
noncomputable def isPre (a b : List Nat) : Bool:=b.take a.length == a
noncomputable def may : List Nat→List Nat→Bool
 | [],_=>true
 | a :: as,y=>match y with
  | []=>true
  | b :: bs=>Nat.beq b a && may as bs
noncomputable def leq : List Nat→List Nat→Bool
 | [],y=>y.isEmpty
 | a :: as,y=>match y with
  | []=>false
  | b :: bs=>Nat.beq a b && leq as bs
theorem leq_eq : ∀ {a b : List Nat},leq a b=true→a=b
 | [],b,h=>(List.isEmpty_iff.mp h).symm
 | a :: as,b,h=>by
  cases b with
  | nil=>cases h
  | cons b bs=>rw [Nat.eq_of_beq_eq_true (a1 h),leq_eq (a2 h)]
noncomputable def chk (x : List Nat) (c : Nat) : List (List Nat)→Bool
 | []=>false
 | a :: r=>leq a x || (!may a (x ++ [c]) && chk x c r)
theorem isPre_may {s : List Nat} : ∀ {a y : List Nat},isPre a (y ++ s)=true→may a y=true
 | [],_,_=>rfl
 | a :: as,y,h=>by
  cases y with
  | nil=>rfl
  | cons b bs=>
   have h : (b :: (bs ++ s).take as.length)=a :: as:=eq_of_beq h
   exact Bool.and_eq_true_iff.mpr ⟨(List.cons.inj h).1 ▸ Nat.beq_refl b,isPre_may (beq_iff_eq.mpr (List.cons.inj h).2)⟩
theorem isPre_self (x s : List Nat) : isPre x (x ++ s)=true:=beq_iff_eq.mpr List.take_left
theorem chk_find {x s : List Nat} {c : Nat} : ∀ {l : List (List Nat)},chk x c l=true→l.find? (fun a=>isPre a (x ++ c :: s))=some x
 | [],h=>nomatch h
 | a :: r,h=>by
  rw [List.find?_cons]
  rcases Bool.or_eq_true_iff.mp h with h | h
  ·rw [leq_eq h,isPre_self]
  ·cases hp : isPre a (x ++ c :: s) with
   | true=>
    have q:=isPre_may (y:=x ++ [c]) (s:=s) (by rw [List.append_assoc]; exact hp)
    rw [q] at h; cases h
   | false=>exact chk_find (a2 h)
theorem nbq {c a : Nat} (h : (c == a)=false) : Nat.beq c a=false:=by
 cases e : Nat.beq c a with
 | false=>rfl
 | true=>rw [Nat.eq_of_beq_eq_true e,beq_self_eq_true] at h; cases h
theorem may_far {c : Nat} : ∀ {a x : List Nat},a.contains c=false→a.contains 0=false→may a (x ++ [c])=may a (x ++ [0])
 | [],_,_,_=>rfl
 | a :: as,x,h,h0=>by
  rw [List.contains_cons,Bool.or_eq_false_iff] at h h0
  cases x with
  | nil=>
   show (Nat.beq c a && _)=(Nat.beq 0 a && _)
   rw [nbq h.1,nbq h0.1]
  | cons b bs=>exact congrArg (Nat.beq b a && ·) (may_far h.2 h0.2)
theorem chk_far {c : Nat} {x : List Nat} : ∀ {l : List (List Nat)},(∀ a∈l,a.contains c=false∧a.contains 0=false)→chk x c l=chk x 0 l
 | [],_=>rfl
 | a :: r,h=>by
  show (leq a x || (!may a (x ++ [c]) && chk x c r))=(leq a x || (!may a (x ++ [0]) && chk x 0 r))
  rw [may_far (h a (.head _)).1 (h a (.head _)).2,chk_far fun b hb=>h b (.tail _ hb)]
theorem off_sub {S l s : List Nat} (h : offS S s=true) (k : l.all S.contains=true) : offS l s=true:=by
 cases s with
 | nil=>rfl
 | cons=>exact congrArg not (off_mem (nt h) k)
noncomputable def sgC : List Nat:=[60,62,61,46,58,45,33,38,124,43,42,47,37,94,40,41,123,125,91,93,44,59,64]
theorem sg_chars : ∀ a∈sgs,a.all sgC.contains=true∧a.contains 0=false:=by decide +kernel
theorem chk_tab {x B : List Nat} {c : Nat} (t : (chk x 0 sgs && sgC.all fun c=>B.contains c || chk x c sgs)=true) (hb : B.contains c=false) : chk x c sgs=true:=by
 cases hc : sgC.contains c with
 | true=>exact (Bool.or_eq_true_iff.mp (List.all_eq_true.mp (a2 t) c (List.contains_iff_mem.mp hc))).elim (fun q=>by rw [hb] at q; cases q) id
 | false=>
  rw [chk_far fun a ha=>⟨off_mem hc (sg_chars a ha).1,(sg_chars a ha).2⟩]; exact a1 t
noncomputable def badX (x : List Nat) : List Nat:=if leq x [62] then 62 :: badS x else if leq x [38] then 38 :: badS x else badS x
theorem sg_tab : (SG.all fun x=>(sgs.find? (fun a=>isPre a x) == some x) && (chk x 0 sgs && sgC.all fun c=>(badX x).contains c || chk x c sgs))=true:=by decide +kernel
theorem sg_find {x s2 : List Nat} (h : x∈SG) (hn : nxT (.sg x) s2=true) (h1 : x=[62]→offS [62] s2=true) (h2 : x=[38]→offS [38] s2=true) : sgs.find? (fun a=>isPre a (x ++ s2))=some x:=by
 have t:=List.all_eq_true.mp sg_tab x h
 cases s2 with
 | nil=>rw [List.append_nil]; exact eq_of_beq (a1 t)
 | cons c s=>
  refine chk_find (chk_tab (a2 t) ?_)
  have hb : (badS x).contains c=false:=nt hn
  unfold badX
  split
  ·rename_i e
   have:=nt (h1 (leq_eq e))
   rw [List.contains_cons,Bool.or_eq_false_iff] at this ⊢; exact ⟨this.1,hb⟩
  ·split
   ·rename_i e
    have:=nt (h2 (leq_eq e))
    rw [List.contains_cons,Bool.or_eq_false_iff] at this ⊢; exact ⟨this.1,hb⟩
   ·exact hb
theorem sg_find_gt {s : List Nat} (hn : nxT (.sg [62]) s=true) : sgs.find? (fun a=>isPre a (62 :: 62 :: s))=some [62,62]:=by
 cases s with
 | nil=>rfl
 | cons c s=>exact chk_find (x:=[62,62]) (chk_tab (B:=[61]) (by decide +kernel) (nt hn))
theorem sg_find_am {s : List Nat} : sgs.find? (fun a=>isPre a (38 :: 38 :: s))=some [38,38]:=rfl
section
variable {k n m p : Nat} {σ : Store} {T r s s2 sf x : List Nat} {c d : Nat} {t : Tk} {E : Ke} {Q : Kv} {N : Kn} {Z : Kr} {x2 : Option V} {b : Bool}
noncomputable def rowP (t : Tk) (p : Nat) : D:=.tup [rowD t p,.int ((p + t.tx.length : Nat) : Int)]
noncomputable def signB : List S:=[.if_ (.cmp .eq (.slLH (.v 0) (.v 1) (.bin .add (.v 1) (.prim .len false [(.v 2)]))) (.v 2)) [.ret false (.tup [(.tup [(.c (.str [115,105,103,110])),(.v 2),(.v 1),(.c .none),(.c .none)]),(.bin .add (.v 1) (.prim .len false [(.v 2)]))])] []]
theorem sign_loop (hd : T.drop p=s) (q : Z false (.d (rowP (.sg x) p)) σ) : ∀ (ss : List (List Nat)) {x2},ss.find? (fun a=>isPre a s)=some x→wFor (wSs Bx (Cl m) signB) [2] N Z (ss.map .str) [some (.d (.str T)),some (.d (.int (p : Int))),x2] σ
 | [],_,h=>nomatch h
 | a :: ss,x2,h=>by
  rw [List.find?_cons] at h
  cases hp : isPre a s with
  | true=>
   rw [hp] at h
   cases h
   exact sls x.length hd (br_t hp q)
  | false=>rw [hp] at h; exact sls a.length hd (br_f hp (sign_loop hd q ss h))
theorem w_sign (hn : 1≤n) (hd : T.drop p=s) (hf : sgs.find? (fun a=>isPre a s)=some x) (q : Q (.d (rowP (.sg x) p)) σ) : Cl n .readSign [.d (.str T),.d (.int (p : Int))] σ E Q:=
 def_k hn rfl fun m hm=>⟨sign_loop hd (zd rfl q) sgs hf⟩
theorem word_sg (hn : 2≤n) (hd : T.drop p=s) (hs : s=c :: r) (h1 : nbL.contains c=false) (h2 : fgL.contains c=false) (h3 : Nat.beq c 39=false) (hf : sgs.find? (fun a=>isPre a s)=some x) (q : Q (.d (rowP (.sg x) p)) σ) : Cl n .readWord [.d (.str T),.d (.int (p : Int))] σ E Q:=
 have hd' : T.drop p=c :: r:=hd.trans hs
 def_k hn rfl fun m hm=>ixs hd' (br_f h1 (ixs hd' (br_f h2 (ixs hd' (br_f (beq_eq_false_iff_ne.mpr fun e=>Nat.ne_of_beq_eq_false h3 (List.cons.inj e).1) (w_sign hm hd hf (zd rfl q)))))))
theorem len_W {L : List Nat} (hd : T.drop p=L ++ s2) (hW : (T.drop p).length < WW) : L.length < WW:=by
 rw [hd,List.length_append] at hW; exact Nat.lt_of_le_of_lt (Nat.le_add_right _ _) hW
theorem nb_ns (h : nbL.contains c=true) : nsL.contains c=true:=by
 have : ∀ x∈nbL,nsL.contains x=true:=by decide +kernel
 exact this c (List.contains_iff_mem.mp h)
theorem word_nm (hm : 2≤n) (hc : nbL.contains c=true) (hr : r.all nsL.contains=true) (hd : T.drop p=(c :: r) ++ s2) (hs : offS nsL s2=true) (hW : (T.drop p).length < WW) (q : Q (.d (rowP (.nm (c :: r)) p)) σ) : Cl n .readWord [.d (.str T),.d (.int (p : Int))] σ E Q:=
 def_k hm rfl fun m hm=>ixs hd (br_t hc (w_run (a:=c :: r) hm hd (Bool.and_eq_true_iff.mpr ⟨nb_ns hc,hr⟩) hs (len_W hd hW) (slx hd rfl (zd rfl q))))
theorem word_rg (hm : 2≤n) (hc : fgL.contains c=false) (hr : (c :: r).all nsL.contains=true) (hd : T.drop p=(39 :: c :: r) ++ s2) (hs : offS nsL s2=true) (hW : (T.drop p).length < WW) (q : Q (.d (rowP (.rg (39 :: c :: r)) p)) σ) : Cl n .readWord [.d (.str T),.d (.int (p : Int))] σ E Q:=
 have hd1 : T.drop (p + 1)=(c :: r) ++ s2:=drop_one hd
 have e1 : p + 1 + (c :: r).length=p + (39 :: c :: r).length:=Nat.succ_add_eq_add_succ p _
 def_k hm rfl fun m hm=>ixs hd (ixs hd (ixs hd (w_run (a:=c :: r) hm hd1 hr hs (Nat.lt_of_succ_lt (len_W hd hW)) (b0f (beq_eq_false_iff_ne.mpr fun e=>Nat.ne_of_gt (Nat.lt_add_of_pos_right (Nat.succ_pos _)) (Int.ofNat.inj e)) (ixs hd1 (b0f hc (slx hd (congrArg Int.ofNat e1) (zd rfl (e1 ▸ q)))))))))
theorem off_xob (h : offS nsL s=true) : ([120,111,98] : List Nat).all (fun c=>offS [c] s)=true:=
 Bool.and_eq_true_iff.mpr ⟨off_sub h rfl,Bool.and_eq_true_iff.mpr ⟨off_sub h rfl,Bool.and_eq_true_iff.mpr ⟨off_sub h rfl,rfl⟩⟩⟩
theorem int_one (hn : 2≤n) (hf : fgL.contains d=true) (hd : T.drop p=(d :: if b then [117,115,105,122,101] else []) ++ s2) (hs : offS nsL s2=true) (q : Q (.d (rowP (.nb (d :: if b then [117,115,105,122,101] else []) (0 * 10 + ((d : Int) - 48)) (suD b)) p)) σ) : Cl n .readInt [.d (.str T),.d (.int (p : Int))] σ E Q:=by
 refine def_k hn rfl fun m hm=>?_
 cases b with
 | false=>exact w_base hm hd (off_xob hs) (int_step (k:=1) hm (lw (by decide)) hd hf rfl fun V hV=>int_stop hm hV (drop_one hd) hs (int_tail (w:=1) (bb:=false) hm hd (drop_one hd) rfl rfl hs rfl q))
 | true=>
  have hd1 : T.drop (p + 1)=[117,115,105,122,101] ++ s2:=drop_one hd
  exact w_base hm hd rfl (int_step (k:=1) hm (lw (by decide)) hd hf rfl fun V hV=>while_go hV fun _ _=>b1t (tlt hd1) (ixs hd1 (ixs hd1 (w_worth hm (int_tail (w:=1) (bb:=true) hm hd hd1 (Nat.succ_add_eq_add_succ p 5) rfl hs rfl q)))))
theorem int_128 (hn : 2≤n) (hd : T.drop p=[49,50,56] ++ s2) (hs : offS nsL s2=true) (q : Q (.d (rowP (.nb [49,50,56] 128 .none) p)) σ) : Cl n .readInt [.d (.str T),.d (.int (p : Int))] σ E Q:=
 have h0 : T.drop p=49 :: 50 :: 56 :: s2:=hd
 have h1:=drop_one h0
 have h2 : T.drop (p + 1 + 1)=56 :: s2:=drop_one h1
 def_k hn rfl fun m hm=>w_base hm h0 rfl (int_step (k:=3) hm (lw (by decide)) h0 rfl rfl fun V hV=>int_step hm hV h1 rfl rfl fun V hV=>int_step hm hV h2 rfl rfl fun V hV=>
  int_stop hm hV (drop_one h2) hs (int_tail (w:=3) (bb:=false) hm hd (drop_one h2) rfl rfl hs rfl q))
theorem fg_nb (h : fgL.contains c=true) : nbL.contains c=false:=by
 have : ∀ x∈fgL,nbL.contains x=false:=by decide +kernel
 exact this c (List.contains_iff_mem.mp h)
theorem nb_tab : (NB.all fun q=>(match q.1 with
 | []=>false
 | d :: r=>fgL.contains d && (leq r (if q.2.2 then [117,115,105,122,101] else []) && (Nat.beq d (q.2.1 + 48)) || leq q.1 [49,50,56] && (Nat.beq q.2.1 128 && !q.2.2))))=true:=by decide +kernel
theorem word_nb (hn : 3≤n) (h : (x,k,b)∈NB) (hd : T.drop p=x ++ s2) (hs : offS nsL s2=true) (q : Q (.d (rowP (.nb x (k : Nat) (suD b)) p)) σ) : Cl n .readWord [.d (.str T),.d (.int (p : Int))] σ E Q:=by
 have t:=List.all_eq_true.mp nb_tab _ h
 cases x with
 | nil=>cases t
 | cons c r=>
  have hf : fgL.contains c=true:=a1 t
  refine def_k hn rfl fun m hm=>ixs hd (br_f (fg_nb hf) (ixs hd (br_t hf ?_)))
  rcases Bool.or_eq_true_iff.mp (a2 t) with t | t
  ·have hv : 0 * 10 + ((c : Int) - 48)=(k : Int):=by rw [Nat.eq_of_beq_eq_true (a2 t),Int.natCast_add,Int.zero_mul,Int.zero_add]; exact Int.add_sub_cancel _ _
   have hr : r=if b then [117,115,105,122,101] else []:=leq_eq (a1 t)
   subst hr
   exact int_one hm hf hd hs (zd rfl (hv ▸ q))
  ·have e1 : c :: r=[49,50,56]:=leq_eq (a1 t)
   have e2 : k=128:=Nat.eq_of_beq_eq_true (a1 (a2 t))
   have e3 : b=false:=nt (a2 (a2 t))
   rw [e1] at hd q
   subst e2; subst e3
   exact int_128 hm hd hs (zd rfl q)
theorem sg_heads : (SG.all fun x=>(match x with
 | []=>false
 | c :: _=>!nbL.contains c && (!fgL.contains c && !Nat.beq c 39)))=true:=by decide +kernel
noncomputable def solT (t : Tk) (s2 : List Nat) : Bool:=match t with
 | .sg [62]=>offS [62] s2
 | .sg [38]=>offS [38] s2
 | _=>true
theorem off_nx (h : nxT t s2=true) (k : ∀ x,t ≠ .sg x) : offS nsL s2=true:=by
 cases s2 with
 | nil=>rfl
 | cons c s=>cases t with
  | sg x=>exact absurd rfl (k x)
  | _=>exact h
theorem word_ok (hn : 3≤n) (ht : okTk t) (hd : T.drop p=t.tx ++ s2) (hx : nxT t s2=true) (h1 : solT t s2=true) (hW : (T.drop p).length < WW) (q : Q (.d (rowP t p)) σ) : Cl n .readWord [.d (.str T),.d (.int (p : Int))] σ E Q:=by
 cases t with
 | nm l=>
  obtain ⟨c,r,rfl,hc,hr⟩:=ht
  exact word_nm (Nat.le_of_succ_le hn) hc hr hd (off_nx hx nofun) hW q
 | rg l=>
  obtain ⟨c,r,rfl,hc,hr⟩:=ht
  exact word_rg (Nat.le_of_succ_le hn) hc hr hd (off_nx hx nofun) hW q
 | nb x v u=>
  obtain ⟨k,b,rfl,rfl,hm⟩:=ht
  exact word_nb hn hm hd (off_nx hx nofun) q
 | sg x=>
  have t:=List.all_eq_true.mp sg_heads x ht
  cases x with
  | nil=>cases t
  | cons c r=>exact word_sg (Nat.le_of_succ_le hn) hd rfl (nt (a1 t)) (nt (a1 (a2 t))) (nt (a2 (a2 t))) (sg_find ht hx (fun e=>by cases (show c :: r=[62] from e); exact h1) (fun e=>by cases (show c :: r=[38] from e); exact h1)) q
 | en=>exact ht.elim
end
end Mine
namespace Mine
noncomputable def spB (l : List Nat) : Bool:=match l with
 | []=>false
 | c :: _=>!([62,38] : List Nat).contains c
theorem tok_sp {t : Tk} (h : okTk t) : t=.sg [62]∨t=.sg [38]∨spB t.tx=true:=by
 cases t with
 | nm l=>
  obtain ⟨c,r,rfl,hc,_⟩:=h
  have : ∀ x∈nbL,spB [x]=true:=by decide +kernel
  exact .inr (.inr (this c (List.contains_iff_mem.mp hc)))
 | rg l=>obtain ⟨c,r,rfl,_⟩:=h; exact .inr (.inr rfl)
 | nb x v u=>
  obtain ⟨k,b,_,_,hm⟩:=h
  have : ∀ q∈NB,spB q.1=true:=by decide +kernel
  exact .inr (.inr (this _ hm))
 | sg x=>
  have : ∀ q∈SG,q=[62]∨q=[38]∨spB q=true:=by decide +kernel
  exact (this x h).imp (congrArg _) (.imp (congrArg _) id)
 | en=>exact h.elim
theorem off1 {c x : Nat} {s : List Nat} (h : offS [x] (c :: s)=false) : c=x:=by
 have h : ([x].contains c)=true:=(Bool.not_eq_false' _).mp h
 exact List.mem_singleton.mp (List.contains_iff_mem.mp h)
theorem lex_sg {c : Nat} {s : List Nat} {ts : List Tk} (h : Lex (c :: s) ts) (hc : c=62∨c=38) : ∃ ts',ts=.sg [c] :: ts'∧nxT (.sg [c]) s=true∧Lex s ts':=by
 replace hc : ([62,38] : List Nat).contains c=true:=by rcases hc with rfl | rfl <;> rfl
 generalize hx : c :: s=x at h
 cases h with
 | nil=>cases hx
 | blank hb=>cases hx; rcases hb with rfl | rfl <;> cases hc
 | remark=>cases hx; cases hc
 | @tok t s2 ts2 h1 h2 h3=>
  rcases tok_sp h1 with rfl | rfl | h
  ·cases hx; exact ⟨ts2,rfl,h2,h3⟩
  ·cases hx; exact ⟨ts2,rfl,h2,h3⟩
  ·generalize t.tx=l at h hx
   cases l with
   | nil=>cases h
   | cons d r=>cases hx; rw [spB,hc] at h; cases h
theorem sol_two {t : Tk} {s2 : List Nat} (h : solT t s2=false) : ∃ x s3,t=.sg [x]∧s2=x :: s3∧(x=62∨x=38):=by
 unfold solT at h
 split at h
 ·cases s2 with
  | nil=>cases h
  | cons c s3=>exact ⟨62,s3,rfl,by rw [off1 h],.inl rfl⟩
 ·cases s2 with
  | nil=>cases h
  | cons c s3=>exact ⟨38,s3,rfl,by rw [off1 h],.inr rfl⟩
 ·cases h
noncomputable def rowsB : List S:=[.asgT [3,2] (.call .readWord [(.v 0),(.v 2)]),.app 1 (.v 3),.asg 2 (.call .blankEnd [(.v 0),(.v 2)])]
section
variable {k n m p q : Nat} {σ σ₀ : Store} {T s : List Nat} {ts : List Tk} {E : Ke} {Q : Kv} {N : Kn} {J : J} {acc : List D} {x3 : Option V}
theorem fit_1m {xs : List D} (h : xs.length < 1000000) : fitD xs=true:=decide_eq_true (Nat.le_of_lt (Nat.lt_trans h (by decide)))
theorem fit_end {xs : List D} {x : D} {l : Nat} (h : xs.length≤l) (hl : l < 1000000) : fitD ([] ++ xs ++ [x])=true:=decide_eq_true (by rw [List.nil_append,List.length_append]; exact Nat.le_trans (Nat.succ_le_of_lt (Nat.lt_of_le_of_lt h hl)) (by decide))
theorem get_top {e : Ent} : (σ ++ [e])[σ.length]?=some e:=by rw [List.getElem?_append_right (Nat.le_refl _),Nat.sub_self]; rfl
theorem take_set {e : Ent} (h : σ.take q=σ₀) : (σ.set q e).take q=σ₀:=(List.take_set_of_le (Nat.le_refl q)).trans h
theorem rows_loop (hm : 3≤m) (hT : T.length < 1000000) : ∀ (M : Nat) {s : List Nat} {p V : Nat} {ts : List Tk} {acc : List D} {σ : Store} {x3 : Option Mine.V},s.length≤M→T.drop p=s→Stop s ts→s.length < V→σ[q]?=some (.lst acc)→acc.length + s.length < 1000000→σ.take q=σ₀ →
  (∀ rows p' x3' σ',(∀ sp,Grp ts (rows ++ [rowD .en sp]))→rows.length≤s.length→σ'[q]?=some (.lst (acc ++ rows))→σ'.take q=σ₀→N [some (.d (.str T)),some (.l q),some (.d (.int (p' : Int))),x3'] σ') →
  Bx (wWhile (wX Bx (Cl m) (.cmp .lt (.v 2) (.prim .len false [(.v 0)]))).t (wSs Bx (Cl m) rowsB) N J V [some (.d (.str T)),some (.l q),some (.d (.int (p : Int))),x3] σ):=by
 intro M
 have stop : ∀ {s : List Nat} {p V : Nat} {ts : List Tk} {acc : List D} {σ : Store} {x3 : Option Mine.V},T.drop p=s→s.length < V→σ[q]?=some (.lst acc)→σ.take q=σ₀→s=[]→ts=[.en] →
   (∀ rows p' x3' σ',(∀ sp,Grp ts (rows ++ [rowD .en sp]))→rows.length≤s.length→σ'[q]?=some (.lst (acc ++ rows))→σ'.take q=σ₀→N [some (.d (.str T)),some (.l q),some (.d (.int (p' : Int))),x3'] σ') →
   Bx (wWhile (wX Bx (Cl m) (.cmp .lt (.v 2) (.prim .len false [(.v 0)]))).t (wSs Bx (Cl m) rowsB) N J V [some (.d (.str T)),some (.l q),some (.d (.int (p : Int))),x3] σ):=
  fun {s p V ts acc σ x3} hd hV hq hk e1 e2 K=>while_go (Nat.le_trans (Nat.le_add_left 1 _) hV) fun _ _=>br_f (tge (hd.trans e1)) (K [] p x3 σ (fun sp=>e2 ▸ .en sp) (Nat.zero_le _) ((List.append_nil acc).symm ▸ hq) hk)
 induction M with
 | zero=>
  intro s p V ts acc σ x3 hs hd hst hV hq hL hk K
  refine hst (fun e1 e2=>stop hd hV hq hk e1 e2 K) fun t s2 ts2 e1 _ ht _ _=>?_
  rw [List.length_eq_zero_iff.mp (Nat.le_zero.mp hs)] at e1
  exact tok_hd ht fun c r e _ _=>by rw [e] at e1; cases e1
 | succ M ih=>
  intro s p V ts acc σ x3 hs hd hst hV hq hL hk K
  refine hst (fun e1 e2=>stop hd hV hq hk e1 e2 K) fun t s2 ts2 he he2 ht hx hlex=>?_
  subst he2
  refine tok_hd ht fun c r htx _ _=>?_
  have hlt:=tlt (T:=T) (p:=p) (c:=c) (s:=r ++ s2) (by rw [hd,he,htx]; rfl)
  have hd0 : T.drop p=t.tx ++ s2:=hd.trans he
  have hsT : s.length≤T.length:=by rw [← hd,List.length_drop]; exact Nat.sub_le _ _
  have go : ∀ (t' : Tk) (s3 : List Nat) (ts3 : List Tk),T.drop p=t'.tx ++ s3→1≤t'.tx.length→Lex s3 ts3→(∀ {E : Ke} {Q : Kv},Q (.d (rowP t' p)) σ→Cl m .readWord [.d (.str T),.d (.int (p : Int))] σ E Q)→(∀ {rs},Grp ts3 rs→Grp (t :: ts2) (rowD t' p :: rs)) →
    Bx (wWhile (wX Bx (Cl m) (.cmp .lt (.v 2) (.prim .len false [(.v 0)]))).t (wSs Bx (Cl m) rowsB) N J V [some (.d (.str T)),some (.l q),some (.d (.int (p : Int))),x3] σ):=fun t' s3 ts3 hd1 hl1 hl3 hw hg=>by
   have h3 : s.length=t'.tx.length + s3.length:=by rw [← hd,hd1,List.length_append]
   have h3' : s3.length + 1≤s.length:=by rw [h3,Nat.add_comm]; exact Nat.add_le_add_right hl1 _
   refine while_go hV fun V hV=>br_t hlt (hw (ls hq (ls hq (bt (fit_1m (by rw [List.length_append]; exact Nat.lt_of_le_of_lt (Nat.add_le_add_left (Nat.le_trans (Nat.le_add_left 1 _) h3') _) hL)) (w_blank (Nat.le_of_succ_le hm) hl3 (drop_app hd1) (Nat.lt_of_le_of_lt (Nat.le_trans (Nat.le_of_succ_le h3') hsT) (Nat.lt_trans hT (by decide))) fun p3 s4 hd4 hl4 hst4=>?_)))))
   have hl5:=Nat.le_trans (Nat.succ_le_succ hl4) h3'
   exact Bx.h (ih (Nat.le_of_succ_le_succ (Nat.le_trans hl5 hs)) hd4 hst4 (Nat.lt_of_lt_of_le hl5 hV) (get_set hq) (by rw [List.length_append,Nat.add_assoc,Nat.add_comm [rowD t' p].length]; exact Nat.lt_of_le_of_lt (Nat.add_le_add_left hl5 _) hL) (take_set hk)
    fun rows p' x3' σ' g hr hq' hk'=>K (rowD t' p :: rows) p' x3' σ' (fun sp=>hg (g sp)) (Nat.le_trans (Nat.succ_le_succ hr) hl5) (by rw [List.append_assoc] at hq'; exact hq') hk')
  cases hsol : solT t s2 with
  | true=>exact go t s2 ts2 hd0 (by rw [htx]; exact Nat.le_add_left 1 _) hlex (fun q=>word_ok hm ht hd0 hx hsol (by rw [hd]; exact Nat.lt_of_le_of_lt hsT (Nat.lt_trans hT (by decide))) q) fun g=>.one _ (fun h=>by subst h; exact ht.elim) g
  | false=>
   obtain ⟨x,s3,rfl,rfl,hx2⟩ : ∃ x s3,t=.sg [x]∧s2=x :: s3∧(x=62∨x=38):=sol_two hsol
   obtain ⟨ts3,rfl,hx3,hl3⟩:=lex_sg hlex hx2
   rcases hx2 with rfl | rfl
   ·exact go (.sg [62,62]) s3 ts3 hd0 (Nat.le_succ 1) hl3 (fun q=>word_sg (Nat.le_of_succ_le hm) hd0 rfl rfl rfl rfl (sg_find_gt hx3) q) fun g=>.gt _ g
   ·exact go (.sg [38,38]) s3 ts3 hd0 (Nat.le_succ 1) hl3 (fun q=>word_sg (Nat.le_of_succ_le hm) hd0 rfl rfl rfl rfl sg_find_am q) fun g=>.am _ g
theorem w_rows (hn : 4≤n) (hl : Lex T ts) (hT : T.length < 1000000) (q : ∀ rows,Grp ts rows→Q (.d (.lst rows)) σ) : Cl n .wordRows [.d (.str T)] σ E Q:=
 have hW:=Nat.lt_trans hT (show 1000000 < WW by decide)
 def_k hn rfl fun m hm=>w_blank (Nat.le_of_succ_le hm) hl (p:=0) rfl hW fun p s hd hs hst=>rows_loop (q:=σ.length) (σ₀:=σ) hm hT s.length (Nat.le_refl _) hd hst (Nat.lt_of_le_of_lt hs hW) get_top (Nat.zero_add _ ▸ Nat.lt_of_le_of_lt hs hT) List.take_left
  fun rows p' x3' σ' g hr hq hk=>ls hq (ls hq (bt (fit_end (Nat.le_trans hr hs) hT) (zl (Nat.lt_irrefl _) (get_set hq) ((take_set hk).symm ▸ q _ (g _)))))
theorem w_read (hn : 5≤n) (hl : Lex T ts) (hT : T.length < 1000000) (q : ∀ rows,Grp ts rows→Q (.w (σ.length + 1)) (σ ++ [.lst rows,.wd σ.length 0])) : Cl n .readWords [.d (.str T)] σ E Q:=
 def_k hn rfl fun m hm=>w_rows hm hl hT fun rows g=>zw (q rows g)
end
end Mine
namespace Mine
noncomputable def sz (t : D) : Nat:=@D.rec (fun _=>Nat) (fun _=>Nat) 1 (fun _=>1) (fun _=>1) (fun _=>1) (fun _ i=>i + 2) (fun _ _=>1) 0 (fun _ _ a b=>a + b) t
noncomputable def szs (t : List D) : Nat:=@D.rec_1 (fun _=>Nat) (fun _=>Nat) 1 (fun _=>1) (fun _=>1) (fun _=>1) (fun _ i=>i + 2) (fun _ _=>1) 0 (fun _ _ a b=>a + b) t
theorem sz_pos (t : D) : 1≤sz t:=by cases t <;> exact Nat.le_add_left 1 _
theorem szs_len : ∀ (xs : List D),xs.length≤szs xs
 | []=>Nat.le_refl 0
 | x :: xs=>Nat.le_trans (Nat.add_le_add (szs_len xs) (sz_pos x)) (Nat.le_of_eq (Nat.add_comm _ _))
theorem sz_leaf {x : D} (h : leafD x=true) : sz x=1:=by cases x <;> first | rfl | cases h
noncomputable def nL (x : D) : Bool:=leafD x || isT x
theorem Sps.nl {a b : List D} (h : Sps a b) : a.all nL=true:=by
 induction h with
 | nil=>rfl
 | leaf h _ ih=>exact Bool.and_eq_true_iff.mpr ⟨Bool.or_eq_true_iff.mpr (.inl h),ih⟩
 | _=>assumption
section
variable {k n m p q : Nat} {σ σ₀ : Store} {x y : D} {xs ys a b ps : List D} {l : List Nat} {s z : Int} {E : Ke} {Q : Kv} {N : Kn} {J : Mine.J} {mu : Bool} {P P' : Prop}
theorem isi_T (h : nL x=true) (q : Q (.d (.bool (isT x))) σ) : Ok (primV .isiTuple mu σ [.d x]) Q:=by cases x <;> first | exact q | cases h
theorem isi_S (h : nL x=true) (q : Q (.d (.bool (kindS x))) σ) : Ok (primV .isiStr mu σ [.d x]) Q:=by cases x <;> first | exact q | cases h
theorem isi_I (h : nL x=true) (q : Q (.d (.bool (kindI x))) σ) : Ok (primV .isiInt mu σ [.d x]) Q:=by cases x <;> first | exact q | cases h
theorem two_lt {k : Nat} : decide ((1 : Int) < ((k + 1 + 1 : Nat) : Int))=true:=decide_eq_true (Int.ofNat_lt.mpr (Nat.succ_lt_succ (Nat.succ_pos k)))
theorem fit_le {xs : List D} (h : xs.length≤LIM) : fitD xs=true:=decide_eq_true h
theorem mk_ok (h : fitD xs=true) (q : Q (.d (.lst xs)) σ) : Ok (mkLst false xs σ) Q:=by unfold mkLst; rw [if_pos h]; exact q
theorem wos_spot {r' r : List D} (hn : 1≤n) (hl : r.length + 2≤LIM) (q : Q (.d (.lst (x :: .int 0 :: r))) σ) : Cl n .withoutSpot [.d (.tup (.str l :: .int s :: r')),.d (.lst (x :: y :: r))] σ E Q:=
 def_k hn rfl fun m hm=>b1t two_lt (idx_t (i:=0) rfl rfl (idx_t (i:=1) rfl rfl (idx_t (i:=1) rfl rfl (idx_t (i:=0) rfl rfl (mk_ok (fit_le (Nat.le_of_succ_le (Nat.le_of_succ_le hl))) (mk_ok (fit_le hl) (zd rfl q)))))))
theorem wos_row (hn : 1≤n) (ha : a.all nL=true) (hr : rowH a=true) (q : Q (.d (.lst ps)) σ) : Cl n .withoutSpot [.d (.tup a),.d (.lst ps)] σ E Q:=
 def_k hn rfl fun m hm=>by
  have fin : Zd σ.length Q false (.d (.lst ps)) σ:=zd rfl q
  match a,ha,hr with
  | [],_,_=>exact fin
  | [x],_,_=>exact fin
  | x :: y :: r,ha,hr=>
   have hr : (kindS x && kindI y)=false:=nt hr
   refine b1t two_lt (idx_t (i:=0) rfl rfl (isi_S (a1 ha) ?_))
   cases e : kindS x with
   | false=>exact fin
   | true=>rw [e] at hr; exact idx_t (i:=1) rfl rfl (isi_I (a1 (a2 ha)) (b1f hr fin))
noncomputable def ent (x : D) : D:=.tup [x,.bool false]
theorem comp_ent {v0 v1 v2 v3 v4 v5 v6 v7 : Option V} {K : List D→Store→Prop} : ∀ (xs acc : List D),acc.length + xs.length≤LIM→K (acc ++ xs.map ent) σ →
  wComp (wX Bx (Cl m) (.tup [(.v 7),(.c (.bool false))])).v (fun _ σ _ K=>K true σ) [v0,v1,v2,v3,v4,v5,v6,v7] [7] xs acc σ K
 | [],acc,h,k=>bt (fit_le h) ((List.append_nil acc) ▸ k)
 | x :: xs,acc,h,k=>comp_ent xs (acc ++ [ent x]) (by rw [List.length_append,Nat.add_assoc,Nat.add_comm [ent x].length]; exact h) (by rw [List.append_assoc]; exact k)
noncomputable def plT : X:=.cmp .ne (.v 1) (.lst false [])
noncomputable def plB : List S:=[.asgT [3,4] (.pop 1),.if_ (.not (.prim .isiTuple false [(.v 3)])) [.app 2 (.v 3)] [.if_ (.not (.v 4)) [.app 1 (.tup [(.v 3),(.c (.bool true))]),.ext 1 (.comp false (.tup [(.v 7),(.c (.bool false))]) [7] (.rev (.v 3)))] [.asg 5 (.bin .sub (.prim .len false [(.v 2)]) (.prim .len false [(.v 3)])),.asg 6 (.slLo (.v 2) (.v 5)),.asg 2 (.slHi true (.v 2) (.v 5)),.app 2 (.prim .tuple false [(.call .withoutSpot [(.v 3),(.v 6)])])]]]
noncomputable def PlW (m : Nat) (N : Kn) (J : Mine.J) (v0 : Option Mine.V) (σ₀ : Store) (V : Nat) (left made : List D) : Prop:=
 ∀ ⦃q x3 x4 x5 x6 x7 σ⦄,σ.take σ₀.length=σ₀→σ[σ₀.length]?=some (.lst left)→σ[q]?=some (.lst made)→σ₀.length < q→Bx (wWhile (wX Bx (Cl m) plT).t (wSs Bx (Cl m) plB) N J V [v0,some (.l σ₀.length),some (.l q),x3,x4,x5,x6,x7] σ)
theorem snoc_ne : (!(xs ++ [x]).isEmpty)=true:=by cases xs <;> rfl
theorem take_set' {e : Ent} (hq : σ₀.length≤q) (h : σ.take σ₀.length=σ₀) : (σ.set q e).take σ₀.length=σ₀:=(List.take_set_of_le hq).trans h
theorem get_set' {e e' : Ent} (h : σ[q]?=some e) (n : p ≠ q) : (σ.set p e')[q]?=some e:=(List.getElem?_set_ne n).trans h
variable {v0 : Option Mine.V} {V : Nat} {left made : List D}
theorem pop_get (h : σ[q]?=some (.lst (xs ++ [x]))) : (σ.set q (.lst (xs ++ [x]).dropLast))[q]?=some (.lst xs):=(get_set h).trans (congrArg (fun l=>some (Ent.lst l)) List.dropLast_concat)
theorem sl_lo (e : z=(p : Int)) (h : σ[q]?=some (.lst xs)) (d : xs.drop p=ys) (hl : ys.length≤LIM) (k : Q (.d (.lst ys)) σ) : Ok (slV false σ (.l q) z none) Q:=by
 unfold slV resD
 rw [e,h,show (decide (0≤(p : Int)) && decide (0≤(none : Option Int).getD 0))=true from Bool.and_eq_true_iff.mpr ⟨decide_eq_true (Int.natCast_nonneg p),rfl⟩]
 exact mk_ok (xs:=xs.drop p) (fit_le (d ▸ hl)) (d ▸ k)
theorem sl_hi (e : z=(p : Int)) (h : σ[q]?=some (.lst xs)) (d : xs.take p=ys) (hl : ys.length≤LIM) (k : Q (.l σ.length) (σ ++ [.lst ys])) : Ok (slV true σ (.l q) 0 (some z)) Q:=by
 unfold slV resD
 rw [e,h,show (decide ((0 : Int)≤0) && decide (0≤(some (p : Int)).getD 0))=true from Bool.and_eq_true_iff.mpr ⟨rfl,decide_eq_true (Int.natCast_nonneg p)⟩]
 show Ok (mkLst true (xs.take p) σ) Q
 unfold mkLst; rw [d,if_pos (fit_le hl)]; exact k
theorem pl_leaf (hx : leafD x=true) (hm : made.length < LIM) (k : ∀ V',V≤V'→PlW m N J v0 σ₀ V' left (made ++ [x])) (hV : V + 1≤p) : PlW m N J v0 σ₀ p (left ++ [ent x]) made:=fun q x3 x4 x5 x6 x7 σ ht hp hq hl=>
 have hq':=get_set' hq (Nat.ne_of_lt hl)
 have hT : isT x=false:=by cases x <;> first | rfl | cases hx
 while_go hV fun V' hV=>cmp_ne_nil hp (br_t snoc_ne (ls hp (ls hp (op List.getLast?_concat (isi_T (Bool.or_eq_true_iff.mpr (.inl hx)) (br_t (congrArg not hT) (ls hq' (ls hq' (bt (fit_le (by rw [List.length_append]; exact hm))
  (k V' hV (take_set' (Nat.le_of_lt hl) (take_set' (Nat.le_refl _) ht)) (get_set' (pop_get hp) (Nat.ne_of_gt hl)) (get_set hq') hl).h)))))))))
theorem pl_open (hl : left.length + xs.length + 1≤LIM) (k : ∀ V',V≤V'→PlW m N J v0 σ₀ V' (left ++ [.tup [.tup xs,.bool true]] ++ (xs.map ent).reverse) made) (hV : V + 1≤p) : PlW m N J v0 σ₀ p (left ++ [ent (.tup xs)]) made:=fun q x3 x4 x5 x6 x7 σ ht hp hq hl'=>
 have hp1:=pop_get hp
 have h1 : left.length + 1≤LIM:=by rw [Nat.add_right_comm] at hl; exact tr hl
 while_go hV fun V' hV=>cmp_ne_nil hp (br_t snoc_ne (ls hp (ls hp (op List.getLast?_concat (ls hp1 (ls hp1 (bt (fit_le (by rw [List.length_append]; exact h1)) (ls (get_set hp1)
  ⟨comp_ent xs.reverse [] (by rw [List.length_reverse,List.length_nil,Nat.zero_add]; exact tl (tr hl)) (mk_ok (by rw [List.nil_append]; exact fit_le (by rw [List.length_map,List.length_reverse]; exact tl (tr hl))) (ls (get_set hp1) (bt (fit_le (by
   rw [List.length_append,List.length_append,List.nil_append,List.length_map,List.length_reverse]; rw [Nat.add_right_comm] at hl; exact hl))
   (k V' hV (take_set' (Nat.le_refl _) (take_set' (Nat.le_refl _) (take_set' (Nat.le_refl _) ht))) ((get_set (get_set hp1)).trans (by rw [List.map_reverse]; rfl)) (get_set' (get_set' (get_set' hq (Nat.ne_of_lt hl')) (Nat.ne_of_lt hl')) (Nat.ne_of_lt hl')) hl').h)))⟩))))))))
theorem pl_close (hps : ps.length=xs.length) (hm : made.length + ps.length + 1≤LIM) (hw : ∀ {σ E Q},Q (.d (.lst ys)) σ→Cl m .withoutSpot [.d (.tup xs),.d (.lst ps)] σ E Q) (k : ∀ V',V≤V'→PlW m N J v0 σ₀ V' left (made ++ [.tup ys])) (hV : V + 1≤p) : PlW m N J v0 σ₀ p (left ++ [.tup [.tup xs,.bool true]]) (made ++ ps):=fun q x3 x4 x5 x6 x7 σ ht hp hq hl'=>
 have hp1:=pop_get hp
 have hq1:=get_set' hq (Nat.ne_of_lt hl') (e':=.lst (left ++ [D.tup [.tup xs,.bool true]]).dropLast)
 have e : ((made ++ ps).length : Int) - (xs.length : Int)=(made.length : Int):=by rw [List.length_append,hps,Int.natCast_add]; exact Int.add_sub_cancel _ _
 have h1 : made.length + 1≤LIM:=by rw [Nat.add_right_comm] at hm; exact tr hm
 have hσ : σ₀.length < (σ.set σ₀.length (.lst (left ++ [D.tup [.tup xs,.bool true]]).dropLast)).length:=by rw [List.length_set]; exact (List.getElem?_eq_some_iff.mp hp).1
 while_go hV fun V' hV=>cmp_ne_nil hp (br_t snoc_ne (ls hp (ls hp (op List.getLast?_concat (len_l hq1 (sl_lo e hq1 List.drop_left (tl (tr hm)) (sl_hi e hq1 List.take_left (Nat.le_of_succ_le h1) (ls get_top (hw (ls get_top (bt (fit_le (by rw [List.length_append]; exact h1))
  (k V' hV (take_set' (Nat.le_of_lt hσ) ((List.take_append_of_le_length (Nat.le_of_lt hσ)).trans (take_set' (Nat.le_refl _) ht))) (get_set' ((List.getElem?_append_left hσ).trans hp1) (Nat.ne_of_gt hσ)) (get_set get_top) hσ).h)))))))))))
noncomputable def PlTs (a b : List D) : Prop:=∀ ⦃m N J v0 σ₀ V left made p⦄,1≤m→left.length + szs b≤LIM→made.length + szs b≤LIM→(∀ V',V≤V'→PlW m N J v0 σ₀ V' left (made ++ b))→V + szs b≤p→PlW m N J v0 σ₀ p (left ++ (a.map ent).reverse) made
theorem rev_ent : left ++ ((x :: a).map ent).reverse=left ++ (a.map ent).reverse ++ [ent x]:=by rw [List.map_cons,List.reverse_cons,List.append_assoc]
theorem len_one : (xs ++ [x]).length=xs.length + 1:=List.length_append
theorem PlTs.leaf (hx : leafD x=true) (h : PlTs a b) : PlTs (x :: a) (x :: b):=fun m N J v0 σ₀ V left made p h1 hl hm k hp=>by
 have e : szs (x :: b)=szs b + 1:=(congrArg (· + szs b) (sz_leaf hx)).trans (Nat.add_comm _ _)
 rw [e] at hl hm hp
 rw [rev_ent]
 have hm' : (made ++ [x]).length + szs b≤LIM:=by rw [len_one,Nat.add_right_comm]; exact hm
 exact pl_leaf hx (tr (by rw [len_one] at hm'; exact hm')) (fun V' hV'=>h h1 (Nat.le_of_succ_le hl) hm' (fun V' hV=>by rw [List.append_assoc]; exact k V' hV) hV') hp
theorem PlTs.tup (hs : PlTs xs ps) (hab : a.length=b.length) (hxp : xs.length=ps.length) (hsz : szs ys=szs ps) (hw : ∀ {m σ E Q},ps.length≤LIM→1≤m→Q (.d (.lst ys)) σ→Cl m .withoutSpot [.d (.tup xs),.d (.lst ps)] σ E Q) (h : PlTs a b) : PlTs (.tup xs :: a) (.tup ys :: b):=fun m N J v0 σ₀ V left made p h1 hl hm k hp=>by
 have e : szs (.tup ys :: b)=szs ps + 2 + szs b:=hsz ▸ rfl
 have hb:=szs_len b
 have hps:=szs_len ps
 rw [← hab] at hb
 rw [← hxp] at hps
 rw [e] at hl hm hp
 rw [rev_ent]
 have n1 : left.length + a.length + 1 + szs ps≤LIM:=by omega
 have n2 : made.length + szs ps + 1 + szs b≤LIM:=by omega
 have n3 : V + szs b + 1 + szs ps + 1≤p:=by omega
 have l1 : (left ++ (a.map ent).reverse).length=left.length + a.length:=by rw [List.length_append,List.length_reverse,List.length_map]
 refine pl_open (V:=V + szs b + 1 + szs ps) (Nat.le_trans (Nat.le_of_eq (Nat.add_right_comm _ _ _)) (Nat.le_trans (Nat.add_le_add_left hps _) (l1.symm ▸ n1))) (fun V1 hV1=>hs h1 (by rw [len_one,l1]; exact n1) (tr (tr n2)) (fun V2 hV2=>?_) hV1) n3
 refine pl_close hxp.symm (Nat.le_trans (Nat.succ_le_succ (Nat.add_le_add_left (hxp ▸ hps) _)) (tr n2)) (hw (hxp ▸ Nat.le_trans hps (tl (tr (tr n2)))) h1) (fun V3 hV3=>?_) hV2
 refine h h1 (Nat.le_trans (Nat.add_le_add_left (Nat.le_add_left _ _) _) hl) (by rw [len_one]; exact Nat.le_trans (Nat.add_le_add_right (Nat.succ_le_succ (Nat.le_add_right _ _)) _) n2) (fun V' hV=>by rw [List.append_assoc]; exact k V' hV) hV3
theorem Sps.pl {a b : List D} (h : Sps a b) : PlTs a b:=by
 induction h with
 | nil=>exact fun m N J v0 σ₀ V left made p _ _ _ k hp=>by rw [show ([].map ent).reverse=[] from rfl,List.append_nil]; exact (List.append_nil made) ▸ k p hp
 | leaf h _ ih=>exact ih.leaf h
 | @spot l s r' r a b hr hs ih1 ih2=>
  exact PlTs.tup (ps:=.str l :: .int s :: r) (ys:=.str l :: .int 0 :: r) (.leaf rfl (.leaf rfl ih1)) hs.length (congrArg (· + 2) hr.length) rfl (fun hl hm q=>wos_spot hm hl q) ih2
 | @row r' r a b h hr hs ih1 ih2=>exact PlTs.tup ih1 hs.length hr.length rfl (fun _ hm q=>wos_row hm hr.nl h q) ih2
theorem plain_ok {t' t : D} (hn : 2≤n) (h : Sp t' t) (hs : sz t < WW) (q : Q (.d t) σ) : Cl n .plain [.d t'] σ E Q:=
 have hL : sz t≤LIM:=Nat.le_trans (Nat.le_of_lt hs) (by decide)
 def_k hn rfl fun m hm=>Sps.pl (h .nil) (V:=1) (σ₀:=σ) (left:=[]) (made:=[]) hm (Nat.le_trans (Nat.le_of_eq (Nat.zero_add _)) hL) (Nat.le_trans (Nat.le_of_eq (Nat.zero_add _)) hL)
  (by exact fun V' hV q1 x3 x4 x5 x6 x7 τ ht hp hq hl=>while_go (k:=0) hV fun _ _=>cmp_ne_nil hp (idx_l hq (i:=0) rfl rfl (zc (ht.symm ▸ q)))) (Nat.le_trans (Nat.le_of_eq (Nat.add_comm _ _)) hs)
  (by rw [List.append_assoc]; exact List.take_left) (by rw [List.append_assoc]; exact get_app) get_top (by rw [List.length_append]; exact Nat.lt_succ_self _)
end
end Mine
namespace Mine
section
variable {k n m : Nat} {σ τ : Store} {x : D} {a b : List D} {f : Fn} {T : List Nat} {ts : List Tk} {t : D} {es : List Ent} {E : Ke} {Q : Kv}
theorem UpdW.back (u : UpdW σ.length (σ ++ es) τ) : τ.take σ.length=σ:=List.ext_getElem? fun i=>by
 rcases Nat.lt_or_ge i σ.length with h | h
 ·rw [List.getElem?_take_of_lt h,u.oth i (Nat.ne_of_lt h) (Nat.ne_of_lt (Nat.lt_succ_of_lt h)),List.getElem?_append_left h]
 ·rw [List.getElem?_eq_none h,List.getElem?_eq_none (Nat.le_trans (by rw [List.length_take]; exact Nat.min_le_left _ _) h)]
noncomputable def Whole (k : Nat) (f : Fn) (ts : List Tk) (t : D) : Prop:=∀ ⦃n⦄,k≤n→∀ ⦃σ j⦄,Wst σ j ts→RdAt n f [] t σ j [.en]
theorem RdF.whole {fol : Tk→Bool} {ts : TL} (h : RdF f k fol [] ts t) (hf : fol .en=true) : Whole k f (ts [.en]) t:=fun n hn σ j hw=>h n hn hw hf
theorem back_ok (hr : Whole k f ts t) (hl : Lex T ts) (hT : T.length < 1000000) (hs : sz t < WW) (hn : k + 6≤n) (q : Q (.d t) σ) : Cl n .lawBack [.fn f,.d (.str T)] σ E Q:=
 def_k hn rfl fun m hm=>w_read (tl hm) hl hT fun rows g=>hr (tr hm) ⟨rows,0,by rw [List.getElem?_append_right (Nat.le_succ _),Nat.succ_sub (Nat.le_refl _),Nat.sub_self]; rfl,get_app,g⟩ fun t' σ' p w u=>w_peek (dl (tl hm) rfl) w rfl fun s=>plain_ok (dl (tl hm) rfl) p hs (zc (u.back.symm ▸ q))
theorem D.eq_self : ∀ (t : D),D.eq t t=true:=fun t=>by
 induction t using D.rec (motive_2:=fun xs=>D.eqs xs xs=true) with
 | nil=>rfl
 | cons x xs h1 h2=>exact Bool.and_eq_true_iff.mpr ⟨h1,h2⟩
 | tup xs h=>exact h
 | lst xs h=>exact h
 | none=>rfl
 | _=>exact beq_self_eq_true _
end
end Mine
namespace Mine
section
variable {k n m : Nat} {σ : Store} {x t : D} {a b r : List D} {l : List Nat} {E : Ke} {Q : Kv}
theorem cmp_self {K : Bool→Prop} (h : t.dep≤64) (k : K false) : Op (cmpV σ .ne (.d t) (.d t)) K:=by
 show Op (if eqOk t t then some (!D.eq t t) else none) K
 rw [if_pos (show eqOk t t=true from decide_eq_true (Nat.le_trans (Nat.min_le_left _ _) h)),D.eq_self]; exact k
theorem bare_leaf (hx : leafD x=true) (hn : 1≤n) (q : Q (.d (.bool true)) σ) : Cl n .lawIsBare [.d x] σ E Q:=def_k hn rfl fun m hm=>by
 have fin : Zd σ.length Q false (.d (.bool true)) σ:=zd rfl q
 cases x <;> first | exact fin | cases hx
noncomputable def BareR (b : List D) : Prop:=∀ ⦃m v0 v1 σ K⦄,D.deps b + 1≤m→K [] σ→wComp (wX Bx (Cl m) (.v 1)).v (wX Bx (Cl m) (.not (.call .lawIsBare [.v 1]))).t [v0,v1] [1] b [] σ K
theorem bare_fin (h : BareR b) (hm : D.deps b + 1≤m) (q : Q (.d (.bool true)) σ) : wSs Bx (Cl m) ((F .lawIsBare).body.drop 1) (Nd σ.length Q) (Jd σ.length E Q) [some (.d (.tup b)),none] σ:=⟨h hm (zd rfl q)⟩
theorem bare_spot (h : BareR (.str l :: .int 0 :: r)) (hn : D.deps (.str l :: .int 0 :: r) + 2≤n) (q : Q (.d (.bool true)) σ) : Cl n .lawIsBare [.d (.tup (.str l :: .int 0 :: r))] σ E Q:=def_k hn rfl fun m hm=>
 b1t two_lt (idx_t (i:=0) rfl rfl (idx_t (i:=1) rfl rfl (idx_t (i:=1) rfl rfl (idx_t (i:=1) rfl rfl (bare_fin h hm q)))))
theorem bare_row (h : BareR b) (ha : b.all nL=true) (hr : rowH b=true) (hn : D.deps b + 2≤n) (q : Q (.d (.bool true)) σ) : Cl n .lawIsBare [.d (.tup b)] σ E Q:=def_k hn rfl fun m hm=>by
 have fin:=bare_fin (E:=E) h hm q
 match b,ha,hr,fin with
 | [],_,_,fin=>exact fin
 | [x],_,_,fin=>exact fin
 | x :: y :: r,ha,hr,fin=>
  have hr : (kindS x && kindI y)=false:=nt hr
  refine b1t two_lt (idx_t (i:=0) rfl rfl (isi_S (a1 ha) ?_))
  cases e : kindS x with
  | false=>exact fin
  | true=>rw [e] at hr; exact idx_t (i:=1) rfl rfl (isi_I (a1 (a2 ha)) (b1f hr fin))
theorem BareR.cons (hx : ∀ {n σ E Q},D.dep x + 1≤n→Q (.d (.bool true)) σ→Cl n .lawIsBare [.d x] σ E Q) (h : BareR b) : BareR (x :: b):=fun m v0 v1 σ K hm k=>
 hx (Nat.le_trans (Nat.succ_le_succ (Nat.le_max_left _ _)) hm) (h (Nat.le_trans (Nat.succ_le_succ (Nat.le_max_right _ _)) hm) k)
theorem Sps.nr {a b : List D} (h : Sps a b) : b.all nL=true:=by
 induction h with
 | nil=>rfl
 | leaf h _ ih=>exact Bool.and_eq_true_iff.mpr ⟨Bool.or_eq_true_iff.mpr (.inl h),ih⟩
 | _=>assumption
theorem Sps.bare {a b : List D} (h : Sps a b) : BareR b:=by
 induction h with
 | nil=>exact fun m v0 v1 σ K _ k=>k
 | leaf h _ ih=>exact ih.cons fun hn q=>bare_leaf h (tl hn) q
 | spot _ _ ih1 ih2=>exact ih2.cons fun hn q=>bare_spot ((ih1.cons fun hn q=>bare_leaf rfl (tl hn) q).cons fun hn q=>bare_leaf rfl (tl hn) q) hn q
 | row h hr _ ih1 ih2=>exact ih2.cons fun hn q=>bare_row ih1 hr.nr (hr.rowH_eq.symm.trans h) hn q
end
end Mine
namespace Mine
noncomputable def hdC (C : Nat→Bool) : List Nat→Bool
 | []=>false
 | c :: _=>C c
noncomputable def hdP (C : Nat→Bool) : List Nat→Bool
 | []=>true
 | c :: _=>C c
noncomputable def cU (c : Nat) : Bool:=([32,10,47,44,41,62,59,93,125,124,40,123,64,43,58,60,46] : List Nat).contains c
noncomputable def cS (c : Nat) : Bool:=!(([58,60,61,124] : List Nat).contains c)
noncomputable def cA (_ : Nat) : Bool:=true
noncomputable def cE (c : Nat) : Bool:=cU c && cS c
noncomputable def gB (C : Nat→Bool) : Bool:=C 32 && (C 10 && C 47)
structure Tx (Z : Nat) (C : Nat→Bool) (c k : Nat) (s : List Nat) (ts : TL) : Prop where
 lx : ∀ ⦃r us⦄,hdP C r=true→Lex r us→Lex (s ++ r) (ts us)
 ln : s.length≤c * Z + k
section
variable {Z c k c' k' x : Nat} {C C' : Nat→Bool} {s s' r g : List Nat} {ts ts' : TL} {t : Tk}
theorem hd_app (h : hdC C s=true) : hdP C (s ++ r)=true:=by cases s with
 | nil=>cases h
 | cons=>exact h
theorem hdC.app (h : hdC C s=true) : hdC C (s ++ r)=true:=by cases s with
 | nil=>cases h
 | cons=>exact h
theorem hdC.mono (h : hdC C s=true) (k : ∀ c,C c=true→C' c=true) : hdC C' s=true:=by cases s with
 | nil=>cases h
 | cons=>exact k _ h
theorem len_add (h : s.length≤c * Z + k) (h' : s'.length≤c' * Z + k') : (s ++ s').length≤(c + c') * Z + (k + k'):=by
 rw [List.length_append,Nat.add_mul,Nat.add_assoc,Nat.add_left_comm _ k,← Nat.add_assoc]; exact Nat.add_le_add h h'
theorem Tx.app (h : Tx Z C c k s ts) (h' : Tx Z C' c' k' s' ts') (hd : hdC C s'=true) : Tx Z C' (c + c') (k + k') (s ++ s') (fun r=>ts (ts' r)):=
 ⟨fun r us hr hl=>(List.append_assoc s s' r).symm ▸ h.lx (hd_app hd) (h'.lx hr hl),len_add h.ln h'.ln⟩
theorem Tx.mono (h : Tx Z C c k s ts) (hC : ∀ c,C' c=true→C c=true) (hc : c≤c') (hk : k≤k') : Tx Z C' c' k' s ts:=
 ⟨fun r us hr hl=>h.lx (by cases r with
  | nil=>rfl
  | cons=>exact hC _ hr) hl,Nat.le_trans h.ln (Nat.add_le_add (Nat.mul_le_mul_right Z hc) hk)⟩
theorem Tx.le (h : Tx Z C c k s ts) (hc : c.ble c'=true) (hk : k.ble k'=true) : Tx Z C c' k' s ts:=h.mono (fun _=>id) (Nat.le_of_ble_eq_true hc) (Nat.le_of_ble_eq_true hk)
theorem Tx.nil (h : Tx Z C c k s ts) : Tx Z C c k (s ++ []) ts:=(List.append_nil s).symm ▸ h
theorem Tx.emp : Tx Z C 0 0 [] (fun r=>r):=⟨fun _ _ _ h=>h,Nat.zero_le _⟩
theorem Tx.blank (hx : x=32∨x=10) : Tx Z C 0 1 [x] (fun r=>r):=⟨fun _ _ _ h=>.blank hx h,Nat.le_add_left _ _⟩
theorem Tx.tok (h : okTk t) (hn : ∀ c,C c=true→nxtB t c=true) (hl : t.tx.length≤k) : Tx Z C 0 k t.tx (fun r=>t :: r):=
 ⟨fun r us hr hl=>.tok h (by cases r with
  | nil=>rfl
  | cons=>exact hn _ hr) hl,by rw [Nat.zero_mul,Nat.zero_add]; exact hl⟩
noncomputable def Gp (g : List Nat) : Prop:=∀ ⦃Z C c k s ts⦄,gB C=true→Tx Z C c k s ts→Tx Z C c (k + 7) (s ++ g) ts
theorem Gp.of (h : ∀ ⦃C⦄,gB C=true→∀ {r us},hdP C r=true→Lex r us→hdP C (g ++ r)=true∧Lex (g ++ r) us) (hl : g.length≤7) : Gp g:=fun Z C c k s ts hC t=>
 ⟨fun r us hr hx=>(List.append_assoc s g r).symm ▸ t.lx (h hC hr hx).1 (h hC hr hx).2,by rw [List.length_append,← Nat.add_assoc]; exact Nat.add_le_add t.ln hl⟩
theorem Gp.nil : Gp []:=.of (fun C _ r us hr hl=>⟨hr,hl⟩) (Nat.zero_le _)
theorem Gp.sp : Gp [32]:=.of (fun C hC r us _ hl=>⟨a1 hC,.blank (.inl rfl) hl⟩) (by decide)
theorem Gp.nl : Gp [10]:=.of (fun C hC r us _ hl=>⟨a1 (a2 hC),.blank (.inr rfl) hl⟩) (by decide)
theorem Gp.rem : Gp remark:=.of (fun C hC r us _ hl=>⟨a2 (a2 hC),.remark hl⟩) (by decide)
theorem cU_ns (h : cU x=true) : nsL.contains x=false:=by
 have : ∀ x∈([32,10,47,44,41,62,59,93,125,124,40,123,64,43,58,60,46] : List Nat),nsL.contains x=false:=by decide +kernel
 exact this x (List.contains_iff_mem.mp h)
theorem cU_eq (h : cU x=true) : ([61] : List Nat).contains x=false:=by
 have : ∀ x∈([32,10,47,44,41,62,59,93,125,124,40,123,64,43,58,60,46] : List Nat),([61] : List Nat).contains x=false:=by decide +kernel
 exact this x (List.contains_iff_mem.mp h)
theorem cS_mem {S : List Nat} (h : cS x=true) (hS : S.all ([58,60,61,124] : List Nat).contains=true) : S.contains x=false:=off_mem (nt h) hS
theorem tx_wd (hk : ∀ x,t ≠ .sg x) (h : okTk t) (hl : t.tx.length≤k) : Tx Z cU 0 k t.tx (fun r=>t :: r):=.tok h (fun c hc=>by
 cases t with
 | sg x=>exact absurd rfl (hk x)
 | _=>exact congrArg not (cU_ns hc)) hl
noncomputable def sgOk (x : List Nat) (B : List Nat) : Bool:=SG.contains x && badS x == B
theorem tx_sg {B : List Nat} (h : sgOk x' B=true) (hC : ∀ c,C c=true→B.contains c=false) (hl : x'.length≤k) : Tx Z C 0 k x' (fun r=>.sg x' :: r):=.tok (t:=.sg x') (List.contains_iff_mem.mp (a1 h)) (fun c hc=>by show (!(badS x').contains c)=true; rw [eq_of_beq (a2 h),hC c hc]; rfl) hl
theorem tx_any (h : sgOk s []=true) (hl : s.length.ble k=true) : Tx Z cA 0 k s (fun r=>.sg s :: r):=tx_sg h (fun _ _=>rfl) (Nat.le_of_ble_eq_true hl)
theorem tx_open {B : List Nat} (h : sgOk s B=true) (hB : B.all ([58,60,61,124] : List Nat).contains=true) (hl : s.length.ble k=true) : Tx Z cS 0 k s (fun r=>.sg s :: r):=tx_sg h (fun _ hc=>cS_mem hc hB) (Nat.le_of_ble_eq_true hl)
noncomputable def sgCl (s : List Nat) : Bool:=SG.contains s && (badS s).all ([61] : List Nat).contains
theorem tx_close (h : sgCl s=true) (hl : s.length.ble k=true) : Tx Z cU 0 k s (fun r=>.sg s :: r):=.tok (t:=.sg s) (List.contains_iff_mem.mp (a1 h)) (fun c hc=>congrArg not (off_mem (cU_eq hc) (a2 h))) (Nat.le_of_ble_eq_true hl)
theorem cE_U (x : Nat) (h : cE x=true) : cU x=true:=a1 h
theorem cE_S (x : Nat) (h : cE x=true) : cS x=true:=a2 h
theorem c_A (x : Nat) (_ : C x=true) : cA x=true:=rfl
noncomputable def POk (Z : Nat) (p : List Nat × TL) : Prop:=Tx Z cU 1 0 p.1 p.2∧hdC cS p.1=true
noncomputable def SepOk (sep : List Nat) : Prop:=∀ Z,Tx Z cA 0 8 sep (fun r=>.sg [44] :: r)∧hdC cU sep=true
theorem sep_gap (h : Gp g) : SepOk ([44] ++ g):=fun Z=>⟨h (C:=cA) rfl (tx_any (k:=1) rfl rfl),rfl⟩
noncomputable def tx1 (ps : List (List Nat × TL)) : List (List Nat):=ps.map (·.1)
noncomputable def tx2 (ps : List (List Nat × TL)) : List TL:=ps.map (·.2)
theorem join_tx {sep : List Nat} (hs : SepOk sep) : ∀ (p : List Nat × TL) (ps : List (List Nat × TL)),(∀ q∈p :: ps,POk Z q)→Tx Z cU (ps.length + 1) (ps.length * 8) (joinS sep (tx1 (p :: ps))) (rwT (tx2 (p :: ps)) false)∧hdC cS (joinS sep (tx1 (p :: ps)))=true
 | p,[],h=>⟨(h p (.head _)).1.mono (fun _=>id) (Nat.le_refl _) (Nat.le_refl _),(h p (.head _)).2⟩
 | p,q :: r,h=>by
  have hp:=h p (.head _)
  have hq:=join_tx hs q r fun x hx=>h x (.tail _ hx)
  refine ⟨?_,hdC.app (hdC.app hp.2)⟩
  exact ((hp.1.app (hs Z).1 (hs Z).2).app hq.1 (hdC.mono hq.2 c_A)).mono (fun _=>id) (Nat.le_of_eq (Nat.add_comm _ _)) (by rw [List.length_cons,Nat.succ_mul,Nat.zero_add,Nat.add_comm]; exact Nat.le_refl _)
theorem rwT_last {r : List Tk} : ∀ (x : TL) (xs : List TL),rwT (x :: xs) true r=rwT (x :: xs) false (.sg [44] :: r)
 | x,[]=>rfl
 | x,y :: z=>congrArg (fun q=>x (.sg [44] :: q)) (rwT_last y z)
noncomputable def comX (b : Bool) : List Nat:=if b then [44] else []
theorem row_tx {sep : List Nat} {last : Bool} (hb : Tx Z C c k s ts) (hC : ∀ c,cS c=true→C c=true) (hs : SepOk sep) (ps : List (List Nat × TL)) (hp : ∀ q∈ps,POk Z q) (hl : ps=[]→last=false) :
  Tx Z cE (c + ps.length) (k + ps.length * 8 + 1) ((s ++ joinS sep (tx1 ps)) ++ comX last) (fun r=>ts (rwT (tx2 ps) last r)):=by
 cases ps with
 | nil=>rw [hl rfl]; exact hb.nil.nil.mono (fun x h=>hC x (cE_S x h)) (Nat.le_refl _) (Nat.le_succ _)
 | cons p ps=>
  have hj:=join_tx hs p ps hp
  have hk : k + ps.length * 8≤k + (ps.length + 1) * 8:=Nat.add_le_add_left (Nat.mul_le_mul_right 8 (Nat.le_succ _)) k
  have h1:=hb.app hj.1 (hdC.mono hj.2 hC)
  cases last with
  | false=>exact h1.nil.mono cE_U (Nat.le_refl _) (Nat.le_succ_of_le hk)
  | true=>
   rw [show (fun r=>ts (rwT (tx2 (p :: ps)) true r))=fun r=>ts (rwT (tx2 (p :: ps)) false (.sg [44] :: r)) from funext fun r=>congrArg ts (rwT_last _ _)]
   exact (h1.app (s':=[44]) (tx_any (k:=1) rfl rfl) rfl).mono c_A (Nat.le_refl _) (Nat.succ_le_succ hk)
theorem row_end {e : List Nat} (h : Tx Z cE c k s ts) (he : sgCl e=true) (hd : hdC cE e=true) (hl : e.length.ble 1=true) : Tx Z cU c (k + 1) (s ++ e) (fun r=>ts (.sg e :: r)):=h.app (tx_close he hl) hd
end
end Mine
namespace Mine
structure Srce (σ : Store) (i : Nat) : Prop where
 e : ∀ {T : Prop},(∀ a b : Int,σ[i]?=some (.lst [.int a,.int b])→0≤b→b < 2147483647→T)→T
structure Ext (i : Nat) (σ τ : Store) : Prop where
 le : σ.length≤τ.length
 oth : ∀ j,j < σ.length→j ≠ i→τ[j]?=σ[j]?
 src : Srce τ i
structure Upd (i : Nat) (σ τ : Store) : Prop extends Ext i σ τ where
 len : τ.length=σ.length
section
variable {i j n p : Nat} {σ τ υ : Store} {e : Ent} {acc : List D} {x : D} {a b : Int} {E : Ke} {Q : Kv} {top : Nat} {xs : List D} {P P' : Prop} {c : Bool}
theorem Srce.lt (h : Srce σ i) : i < σ.length:=h.e fun a b e _ _=>(List.getElem?_eq_some_iff.mp e).1
theorem Srce.of (e : σ[i]?=some (.lst [.int a,.int b])) (h0 : 0≤b) (h1 : b < 2147483647) : Srce σ i:=⟨fun k=>k a b e h0 h1⟩
theorem Srce.keep (h : Srce σ i) (k : τ[i]?=σ[i]?) : Srce τ i:=⟨fun q=>h.e fun a b e=>q a b (k.trans e)⟩
theorem Ext.trans (a : Ext i σ τ) (b : Ext i τ υ) : Ext i σ υ:=⟨Nat.le_trans a.le b.le,fun j h n=>(b.oth j (Nat.lt_of_lt_of_le h a.le) n).trans (a.oth j h n),b.src⟩
theorem Upd.refl (h : Srce σ i) : Upd i σ σ:=⟨⟨Nat.le_refl _,fun _ _ _=>rfl,h⟩,rfl⟩
theorem Upd.trans (a : Upd i σ τ) (b : Upd i τ υ) : Upd i σ υ:=⟨a.toExt.trans b.toExt,b.len.trans a.len⟩
theorem Upd.set (h : Srce σ i) (h0 : 0≤b) (h1 : b < 2147483647) : Upd i σ (σ.set i (.lst [.int a,.int b])):=
 ⟨⟨Nat.le_of_eq List.length_set.symm,fun j _ n=>List.getElem?_set_ne n.symm,.of (List.getElem?_set_self h.lt) h0 h1⟩,List.length_set⟩
theorem Ext.cut (a : Ext i σ τ) (hi : i < σ.length) : Upd i σ (τ.take σ.length):=
 have hl : (τ.take σ.length).length=σ.length:=by rw [List.length_take]; exact Nat.min_eq_left a.le
 ⟨⟨Nat.le_of_eq hl.symm,fun j h n=>(List.getElem?_take_of_lt h).trans (a.oth j h n),a.src.keep (List.getElem?_take_of_lt hi)⟩,hl⟩
structure PI (i : Nat) (σ : Store) (acc : List D) (τ : Store) : Prop where
 ex : Ext i σ τ
 li : τ[σ.length]?=some (.lst acc)
theorem PI.init (h : Srce σ i) : PI i σ [] (σ ++ [.lst []]):=⟨⟨by rw [List.length_append]; exact Nat.le_add_right _ _,fun j h _=>List.getElem?_append_left h,h.keep (List.getElem?_append_left h.lt)⟩,get_top⟩
theorem PI.upd (h : PI i σ acc τ) (hi : i < σ.length) (u : Upd i τ υ) : PI i σ acc υ:=⟨h.ex.trans u.toExt,(u.oth _ (List.getElem?_eq_some_iff.mp h.li).1 (Nat.ne_of_gt hi)).trans h.li⟩
theorem PI.push (h : PI i σ acc τ) (hi : i < σ.length) {xs : List D} : PI i σ xs (τ.set σ.length (.lst xs)):=
 ⟨⟨Nat.le_trans h.ex.le (Nat.le_of_eq List.length_set.symm),fun j hj n=>(List.getElem?_set_ne (Nat.ne_of_gt hj)).trans (h.ex.oth j hj n),h.ex.src.keep (List.getElem?_set_ne (Nat.ne_of_gt hi))⟩,get_set h.li⟩
theorem br_c (p : P) (p' : P') : Br c P P':=by
 cases c with
 | false=>exact p'
 | true=>exact p
theorem bin_ok {α : Type} {b : Bool} {x y : R α} {Q : α→Store→Prop} (h : b=true) (q : Ok x Q) : Ok (if b then x else y) Q:=by rw [if_pos h]; exact q
theorem ab_small {b : Int} (h0 : 0≤b) (h1 : b < 2147483647) : decide (b.natAbs < 1267650600228229401496703205376)=true:=decide_eq_true (by omega)
theorem w_take1 (hn : 1≤n) (h : Srce σ i) (h0 : 0 < top) (h1 : top < 1000000) (q : ∀ (k : Nat) σ',k < top→Upd i σ σ'→Q (.d (.int k)) σ') : Cl n .lawTake [.l i,.d (.int top)] σ E Q:=
 have t0 : decide (0 < (top : Int))=true:=decide_eq_true (Int.ofNat_lt.mpr h0)
 have t1 : (decide (0 < (top : Int)) && decide ((top : Int) < 1000000))=true:=Bool.and_eq_true_iff.mpr ⟨t0,decide_eq_true (Int.ofNat_lt.mpr h1)⟩
 have fin : ∀ {z : Int} {σ'},Upd i σ σ'→Q (.d (.int (z % top))) σ':=fun {z σ'} u=>by
  have hz:=Int.emod_nonneg z (Int.ne_of_gt (Int.ofNat_lt.mpr h0))
  obtain ⟨k,hk⟩:=Int.eq_ofNat_of_zero_le hz
  rw [hk]; exact q k σ' (Int.ofNat_lt.mp (hk ▸ Int.emod_lt_of_pos z (Int.ofNat_lt.mpr h0))) u
 def_k hn rfl fun m hm=>h.e fun a b e hb0 hb1=>
 have hc0 : 0≤(b * 39373 + 7) % 2147483647:=Int.emod_nonneg _ (by decide)
 have hc1 : (b * 39373 + 7) % 2147483647 < 2147483647:=Int.emod_lt_of_pos _ (by decide)
 have e':=get_set e (e':=.lst [.int a,.int ((b * 39373 + 7) % 2147483647)])
 idx_l e (i:=0) rfl rfl (br_c
  (idx_l e (i:=0) rfl rfl (bin_ok t0 (idx_l e (i:=0) rfl rfl (bin_ok t1 (ls e (zd List.length_set (fin (Upd.set h hb0 hb1))))))))
  (idx_l e (i:=1) rfl rfl (bin_ok (Bool.and_eq_true_iff.mpr ⟨ab_small hb0 hb1,rfl⟩) (ls e (idx_l e' (i:=1) rfl rfl (idx_l e' (i:=1) rfl rfl (bin_ok (Bool.and_eq_true_iff.mpr ⟨ab_small hc0 hc1,ab_small hc0 hc1⟩) (bin_ok t0 (zd List.length_set (fin (Upd.set h hc0 hc1)))))))))))
noncomputable def allP (P : D→Prop) : List D→Prop
 | []=>True
 | x :: xs=>P x∧allP P xs
theorem al1 {P : D→Prop} (h : P x) (k : allP P xs) : allP P (x :: xs):=⟨h,k⟩
theorem al0 {P : D→Prop} : allP P []:=trivial
theorem allP.get {P : D→Prop} : ∀ {xs : List D} {k : Nat},allP P xs→(h : k < xs.length)→∃ x,xs[k]?=some x∧P x
 | x :: xs,0,h,_=>⟨x,rfl,h.1⟩
 | x :: xs,k + 1,h,hk=>h.2.get (Nat.lt_of_succ_lt_succ hk)
theorem idx_dl {k : Nat} (hx : xs[k]?=some x) (q : Q (.d x) σ) : Ok (idxV σ (.d (.lst xs)) (.d (.int (k : Int)))) Q:=by
 show Ok (match (pyIdx xs.length (k : Int)).bind (xs[·]?) with | some x=>.ok (.d x) σ | none=>.no) Q
 rw [pyIdx_z rfl hx]; exact q
theorem w_one (hn : 2≤n) (h : Srce σ i) (hl : (Nat.blt 0 xs.length && Nat.blt xs.length 1000)=true) (q : ∀ σ',Upd i σ σ'→allP (fun x=>Q (.d x) σ') xs) : Cl n .lawOne [.l i,.d (.lst xs)] σ E Q:=
 def_k hn rfl fun m hm=>w_take1 (top:=xs.length) hm h (Nat.le_of_ble_eq_true (a1 hl)) (Nat.lt_trans (Nat.le_of_ble_eq_true (a2 hl)) (by decide)) fun k σ' hk u=>by
  obtain ⟨x,e,p⟩:=(q σ' u).get hk
  exact idx_dl e (zd u.len p)
theorem w_gap (hn : 3≤n) (h : Srce σ i) (q : ∀ g σ',Gp g→Upd i σ σ'→Q (.d (.str g)) σ') : Cl n .lawGap [.l i] σ E Q:=
 def_k hn rfl fun m hm=>w_one hm h rfl fun σ' u=>al1 (zd u.len (q _ _ .nil u)) (al1 (zd u.len (q _ _ .sp u)) (al1 (zd u.len (q _ _ .rem u)) (al1 (zd u.len (q _ _ .nl u)) al0)))
theorem comp_w {α : Type} {key val : α→D} {P : α→Prop} {U : Store→Prop} {f : Loc→Store→Ke→Kv→Prop} {Γ : Loc} {ts : List Nat} {K : List D→Store→Prop} : ∀ (xs acc : List D) {τ : Store},U τ→acc.length + xs.length≤LIM →
  (∀ x∈xs,∀ τ K',U τ→(∀ a τ',key a=x→P a→U τ'→K' (.d (val a)) τ')→Op (bindT Γ ts x) fun Γ'=>f Γ' τ No K') →
  (∀ (as : List α) τ',as.map key=xs→(∀ a∈as,P a)→U τ'→K (acc ++ as.map val) τ')→wComp f (fun _ σ _ K=>K true σ) Γ ts xs acc τ K
 | [],acc,τ,hU,hl,_,q=>bt (fit_le hl) ((List.append_nil acc) ▸ q [] τ rfl (fun _ h=>nomatch h) hU)
 | x :: xs,acc,τ,hU,hl,h,q=>by
  have hx:=h x (.head _) τ (fun v σ=>Vd v fun y=>wComp f (fun _ σ _ K=>K true σ) Γ ts xs (acc ++ [y]) σ K) hU fun a τ' ek hp hU'=>
   comp_w xs (acc ++ [val a]) hU' (by rw [List.length_append,Nat.add_assoc,Nat.add_comm [val a].length]; exact hl) (fun y hy=>h y (.tail _ hy)) fun as τ'' e hP u=>by
    rw [List.append_assoc]
    exact q (a :: as) τ'' (congr (congrArg List.cons ek) e) (fun b hb=>(List.mem_cons.mp hb).elim (fun e=>e ▸ hp) (hP b)) u
  exact hx
end
end Mine
namespace Mine
noncomputable def nameSet : List (List Nat):=plainNames ++ headNames ++ genNames ++ bindNames ++ [[95],[116,114,117,101],[102,97,108,115,101],[114,101,102],[109,117,116]]
noncomputable def regSet : List (List Nat):=[[39,97],[39,98],[39,115,116,97,116,105,99]]
noncomputable def nmOk (x : List Nat) : Bool:=match x with
 | []=>false
 | c :: r=>(nbL.contains c && r.all nsL.contains) && (cS c && Nat.ble x.length 5)
noncomputable def rgOk (x : List Nat) : Bool:=match x with
 | []=>false
 | c :: r=>match r with
  | []=>false
  | d :: q=>(Nat.beq c 39 && !fgL.contains d) && ((d :: q).all nsL.contains && Nat.ble x.length 7)
section
variable {Z c k l e' : Nat} {C : Nat→Bool} {x s g sp nm : List Nat} {ts w : TL} {t d : D} {first e : Bool} {ds : List D}
theorem tx_nm (h : nameSet.contains x=true) : Tx Z cU 0 5 x (fun r=>.nm x :: r)∧hdC cS x=true:=by
 have : ∀ x∈nameSet,nmOk x=true:=by decide +kernel
 have h:=this x (List.contains_iff_mem.mp h)
 cases x with
 | nil=>cases h
 | cons c r=>exact ⟨tx_wd (t:=.nm (c :: r)) nofun ⟨c,r,rfl,a1 (a1 h),a2 (a1 h)⟩ (Nat.le_of_ble_eq_true (a2 (a2 h))),a1 (a2 h)⟩
theorem tx_rg (h : regSet.contains x=true) : Tx Z cU 0 7 x (fun r=>.rg x :: r)∧hdC cS x=true:=by
 have : ∀ x∈regSet,rgOk x=true:=by decide +kernel
 have h:=this x (List.contains_iff_mem.mp h)
 cases x with
 | nil=>cases h
 | cons c r=>cases r with
  | nil=>cases h
  | cons d q=>
   cases Nat.eq_of_beq_eq_true (a1 (a1 h))
   exact ⟨tx_wd (t:=.rg (39 :: d :: q)) nofun ⟨d,q,rfl,nt (a2 (a1 h)),a1 (a2 h)⟩ (Nat.le_of_ble_eq_true (a2 (a2 h))),rfl⟩
structure TX (Z c l k : Nat) (s : List Nat) (w : TL) (t : D) : Prop where
 tx : Tx Z cU c l s w
 hd : hdC cS s=true
 ty : TYp k w t
structure SX (Z c l k : Nat) (e first : Bool) (s : List Nat) (w : TL) (d : D) : Prop where
 tx : Tx Z cU c l s w
 hd : hdC cS s=true
 sg : SegP k e first w d
structure PX (Z c l k : Nat) (e : Bool) (s : List Nat) (w : TL) (ds : List D) : Prop where
 tx : Tx Z cU c l s w
 hd : hdC cS s=true
 pp : PathP k e w ds
noncomputable abbrev It:=List Nat × (TL × D)
noncomputable def itS (its : List It) : List (List Nat):=its.map (·.1)
noncomputable def itT (its : List It) : List (TL × D):=its.map (·.2)
noncomputable def itP (its : List It) : List (List Nat × TL):=its.map fun i=>(i.1,i.2.1)
noncomputable def itD (its : List It) : List D:=its.map (·.2.2)
theorem itP_s (its : List It) : tx1 (itP its)=itS its:=List.map_map
theorem itP_w (its : List It) : tx2 (itP its)=plist (itT its):=by unfold tx2 itP plist itT; rw [List.map_map,List.map_map]; rfl
theorem itD_d (its : List It) : dlist (itT its)=itD its:=List.map_map
theorem nm_set (h : nmB first x=true) : nameSet.contains x=true:=by
 have : ∀ x∈plainNames ++ headNames,nameSet.contains x=true:=by decide +kernel
 exact this x (nm_el h (fun h=>List.mem_append_left _ (List.contains_iff_mem.mp h)) fun _ h=>List.mem_append_right _ (List.contains_iff_mem.mp h))
theorem sx_bare (h : nmB first x=true) : SX Z 0 5 k e first x (fun r=>.nm x :: r) (.tup [.str x,.tup [],.tup []]):=⟨(tx_nm (nm_set h)).1,(tx_nm (Z:=Z) (nm_set h)).2,.bare h⟩
noncomputable def colX (b : Bool) : List Nat:=if b then [58,58] else []
noncomputable def angW (rs : List (List Nat)) (its : List It) (last : Bool) : TL:=fun r=>.sg [60] :: rwT (regL rs ++ plist (itT its)) last (.sg [62] :: r)
theorem nm_col {col : Bool} (h : nmB first x=true) (hs : Tx Z cU c l s w) (hd : hdC cU s=true) : Tx Z cU c (l + 7) (x ++ (colX col ++ s)) (fun r=>.nm x :: colT col (w r))∧Tx Z cU c (l + 7) ((x ++ colX col) ++ s) (fun r=>.nm x :: colT col (w r)):=by
 have hn:=(tx_nm (Z:=Z) (nm_set h)).1
 have e1 : ∀ {s w},Tx Z cU (0 + c) (5 + l + 2) s w→Tx Z cU c (l + 7) s w:=fun t=>t.mono (fun _=>id) (Nat.le_of_eq (Nat.zero_add _)) (by rw [Nat.add_comm 5,Nat.add_assoc]; exact Nat.le_refl _)
 cases col with
 | false=>
  have h1:=(hn.app hs hd).mono (fun _=>id) (Nat.le_refl _) (Nat.le_add_right _ 2)
  exact ⟨e1 h1,e1 (show Tx Z cU (0 + c) (5 + l + 2) ((x ++ []) ++ s) _ from (List.append_nil x).symm ▸ h1)⟩
 | true=>
  have hc:=(tx_any (Z:=Z) (s:=[58,58]) (k:=2) rfl rfl).app hs (hdC.mono hd c_A)
  have h2 : Tx Z cU (0 + c) (5 + l + 2) (x ++ ([58,58] ++ s)) _:=(hn.app hc rfl).mono (fun _=>id) (by rw [Nat.zero_add,Nat.zero_add]; exact Nat.le_refl _) (by rw [Nat.add_comm 2,← Nat.add_assoc]; exact Nat.le_refl _)
  exact ⟨e1 h2,e1 ((List.append_assoc x [58,58] s).symm ▸ h2)⟩
theorem sx_args {rs : List (List Nat)} {its : List It} {last col : Bool} (h : nmB first x=true) (hce : col=true∨e=false) (hI : ∀ i∈its,TYp k i.2.1 i.2.2) (hl : rs.length + its.length≤1000) (hs : Tx Z cU c l s (angW rs its last)) (hd : hdC cU s=true) :
  SX Z c (l + 7) k e first (x ++ (colX col ++ s)) (fun r=>.nm x :: colT col (angW rs its last r)) (.tup [.str x,.tup (rs.map .str),.tup (itD its)])∧SX Z c (l + 7) k e first ((x ++ colX col) ++ s) (fun r=>.nm x :: colT col (angW rs its last r)) (.tup [.str x,.tup (rs.map .str),.tup (itD its)]):=by
 have sg:=SegP.args (k:=k) (e:=e) (first:=first) (col:=col) rs (itT its) last h hce (fun p hp=>by
  obtain ⟨i,hi,e⟩:=List.mem_map.mp hp
  exact e ▸ hI i hi) (by rw [show (itT its).length=its.length from List.length_map _]; exact hl)
 rw [itD_d] at sg
 have hn:=(tx_nm (Z:=Z) (nm_set h)).2
 exact ⟨⟨(nm_col h hs hd).1,hdC.app hn,sg⟩,⟨(nm_col h hs hd).2,hdC.app (hdC.app hn),sg⟩⟩
theorem px_one (h : SX Z c l k e true s w d) : PX Z c l k e s w [d]:=⟨h.tx,h.hd,.one h.sg⟩
theorem px_two {s' : List Nat} {w' : TL} {d' : D} {c' l' : Nat} (hg : Gp g) (h : SX Z c l k e true s w d) (h' : SX Z c' l' k e false s' w' d') : PX Z (c + c') (l + (9 + l')) k e (s ++ (g ++ [58,58]) ++ s') (fun r=>w (.sg [58,58] :: w' r)) [d,d']:=by
 have h1:=(((hg (C:=cU) rfl h.tx).app (tx_any (Z:=Z) (s:=[58,58]) (k:=2) rfl rfl) rfl).app h'.tx (hdC.mono h'.hd c_A))
 rw [List.append_assoc s] at h1
 exact ⟨h1.mono (fun _=>id) (Nat.le_refl _) (by omega),hdC.app (hdC.app h.hd),.two h.sg h'.sg⟩
theorem TX.path (h : PX Z c l k false s w ds) : TX Z c l (k + 9) s w (.tup [.str [112,97,116,104],.int 0,.tup ds]):=⟨h.tx,h.hd,.path h.pp⟩
noncomputable def regX : Option (List Nat)→List Nat
 | none=>[]
 | some l=>l ++ [32]
noncomputable def mutX (m : Bool) : List Nat:=if m then [109,117,116,32] else []
theorem tx_kw (h : Tx Z cS c l s ts) (hx : nameSet.contains x=true) : Tx Z cS c (l + 6) (s ++ (x ++ [32])) (fun r=>ts (.nm x :: r)):=h.app ((tx_nm hx).1.app (.blank (.inl rfl)) rfl) (hdC.app (tx_nm (Z:=Z) hx).2)
theorem tx_mut {m : Bool} (h : Tx Z cS c l s ts) : Tx Z cS c (l + 6) (s ++ mutX m) (fun r=>ts (mutT m r)):=by
 cases m with
 | false=>exact h.nil.mono (fun _=>id) (Nat.le_refl _) (Nat.le_add_right _ _)
 | true=>exact tx_kw (x:=[109,117,116]) h rfl
theorem tx_reg {rx : Option (List Nat)} (h : Tx Z cS c l s ts) (hx : ∀ x,rx=some x→regSet.contains x=true) : Tx Z cS c (l + 8) (s ++ regX rx) (fun r=>ts (regT rx r)):=by
 cases rx with
 | none=>exact h.nil.mono (fun _=>id) (Nat.le_refl _) (Nat.le_add_right _ _)
 | some x=>exact h.app ((tx_rg (hx x rfl)).1.app (.blank (.inl rfl)) rfl) (hdC.app (tx_rg (Z:=Z) (hx x rfl)).2)
theorem TX.ref {rx : Option (List Nat)} {m : Bool} (hx : ∀ x,rx=some x→regSet.contains x=true) (h : TX Z c l k s w t) : TX Z (0 + c) (1 + 8 + 6 + l) (k + 4) ((([38] ++ regX rx) ++ mutX m) ++ s) (refT rx m w) (refD rx m t):=
 ⟨(tx_mut (tx_reg (tx_open (s:=[38]) (k:=1) (B:=[61]) rfl rfl rfl) hx)).app h.tx h.hd,rfl,.ref h.ty⟩
theorem TX.par (hg : Gp g) (h : TX Z c l k s w t) : TX Z (0 + c + 0) (1 + 7 + l + 1) (k + 5) ((([40] ++ g) ++ s) ++ [41]) (fun r=>.sg [40] :: w (.sg [41] :: r)) t:=
 ⟨((hg (C:=cA) rfl (tx_any rfl rfl)).app h.tx (hdC.mono h.hd c_A)).app (tx_close rfl rfl) rfl,rfl,.par h.ty⟩
theorem TX.tup {its : List It} {last : Bool} (hI : ∀ i∈its,TYp k i.2.1 i.2.2) (hl : its.length≤1000) (h1 : its.length=1→last=true) (hs : Tx Z cU c l s (fun r=>.sg [40] :: rwT (plist (itT its)) last (.sg [41] :: r))) (hd : hdC cS s=true) :
  TX Z c l (k + 5) s (fun r=>.sg [40] :: rwT (plist (itT its)) last (.sg [41] :: r)) (.tup [.str [116,117,112,108,101],.int 0,.tup (itD its)]):=by
 have h:=TYp.tup (k:=k) (itT its) (fun p hp=>by
  obtain ⟨i,hi,e⟩:=List.mem_map.mp hp
  exact e ▸ hI i hi) last (by rw [show (itT its).length=its.length from List.length_map _]; exact hl) (by rw [show (itT its).length=its.length from List.length_map _]; exact h1)
 rw [itD_d] at h
 exact ⟨hs,hd,h⟩
theorem tx_nb {v : Nat} {b : Bool} (h : (x,v,b)∈NB) : Tx Z cU 0 6 x (fun r=>.nb x (v : Int) (suD b) :: r):=by
 have : ∀ q∈NB,Nat.ble q.1.length 6=true:=by decide +kernel
 exact tx_wd (t:=.nb x (v : Int) (suD b)) nofun ⟨v,b,rfl,rfl,h⟩ (Nat.le_of_ble_eq_true (this _ h))
theorem nb_hd {v : Nat} {b : Bool} (h : (x,v,b)∈NB) : hdC cS x=true:=by
 have : ∀ q∈NB,hdC cS q.1=true:=by decide +kernel
 exact this _ h
theorem suD_ok {b : Bool} : ninD (suD b) (.tup [.none,.str [117,115,105,122,101]])=some false:=by cases b <;> rfl
theorem TX.arr {v : Nat} (hn : (x,v,false)∈NB) (h : TX Z c l k s w t) : TX Z (0 + c + 0 + 0 + 0) (1 + l + 2 + 6 + 1) (k + 5) (((([91] ++ s) ++ [59,32]) ++ x) ++ [93]) (fun r=>.sg [91] :: w (.sg [59] :: .nb x v (suD false) :: .sg [93] :: r)) (.tup [.str [97,114,114,97,121],.int 0,t,.int (v : Int)]):=
 ⟨((((tx_any rfl rfl).app h.tx (hdC.mono h.hd c_A)).app ((tx_any (s:=[59]) (k:=1) rfl rfl).app (.blank (C:=cS) (.inl rfl)) rfl) rfl).app (tx_nb hn) (nb_hd hn)).app (tx_close rfl rfl) rfl,rfl,.arr h.ty x v suD_ok⟩
theorem TX.arrL {v : Nat} (hg : Gp g) (hn : (x ++ [117,115,105,122,101],v,true)∈NB) (h : TX Z c l k s w t) : TX Z (0 + c + 0 + 0 + 0) (1 + l + 7 + 1 + 6 + 1) (k + 5) ((((([91] ++ s) ++ g) ++ [59]) ++ x) ++ [117,115,105,122,101,93]) (fun r=>.sg [91] :: w (.sg [59] :: .nb (x ++ [117,115,105,122,101]) v (suD true) :: .sg [93] :: r)) (.tup [.str [97,114,114,97,121],.int 0,t,.int (v : Int)]):=by
 have h1:=((((hg (C:=cU) rfl ((tx_any (Z:=Z) (s:=[91]) (k:=1) rfl rfl).app h.tx (hdC.mono h.hd c_A))).app (tx_any (s:=[59]) (k:=1) rfl rfl) rfl).app (tx_nb hn) (hdC.mono (nb_hd hn) c_A)).app (tx_close (s:=[93]) (k:=1) rfl rfl) rfl)
 rw [List.append_assoc,List.append_assoc x,← List.append_assoc _ x] at h1
 exact ⟨h1,rfl,.arr h.ty _ v suD_ok⟩
theorem TX.never : TX Z 0 1 3 [33] (fun r=>.sg [33] :: r) (.tup [.str [110,101,118,101,114],.int 0]):=⟨tx_close rfl rfl,rfl,.never⟩
theorem TX.infer : TX Z 0 5 3 [95] (fun r=>.nm [95] :: r) (.tup [.str [105,110,102,101,114],.int 0]):=⟨(tx_nm rfl).1,rfl,.infer⟩
end
end Mine
namespace Mine
section
variable {Z c k l i n m p : Nat} {x y s g a b sep : List Nat} {xs : List D} {ss : List (List Nat)} {w : TL} {t d : D} {σ : Store} {Γ : Loc} {E : Ke} {Q K : Kv} {u : Bool} {P P' : Prop}
theorem ad (h : fitS (a ++ b)=true) (q : Q (.d (.str (a ++ b))) σ) : Ok (binV σ .add (.d (.str a)) (.d (.str b))) Q:=bin_ok h q
theorem pre (h : fitS (a ++ b)=true) : fitS a=true:=decide_eq_true (by
 have h:=of_decide_eq_true h
 rw [List.length_append] at h; exact Nat.le_trans (Nat.le_add_right _ _) h)
theorem suf (h : fitS (a ++ b)=true) : fitS b=true:=decide_eq_true (by
 have h:=of_decide_eq_true h
 rw [List.length_append] at h; exact Nat.le_trans (Nat.le_add_left _ _) h)
theorem big (hZ : Z≤100000) (hc : c≤40) (hk : k≤10000) : c * Z + k≤LIM:=Nat.le_trans (Nat.add_le_add (Nat.mul_le_mul hc hZ) hk) (by decide)
theorem Tx.fit {C : Nat→Bool} {ts : TL} (h : Tx Z C c k s ts) (hZ : Z≤100000) (hc : c≤40) (hk : k≤10000) : fitS s=true:=decide_eq_true (Nat.le_trans h.ln (big hZ hc hk))
theorem br_m (q : K (.d (.str (if u then x else y))) σ) : Br u ((wX Bx (Cl m) (.c (.str x))).v Γ σ E K) ((wX Bx (Cl m) (.c (.str y))).v Γ σ E K):=by
 cases u with
 | false=>exact q
 | true=>exact q
theorem strs_map : ∀ {ss : List (List Nat)},strsOf (ss.map .str)=some ss
 | []=>rfl
 | s :: r=>congrArg (Option.map (s :: ·)) (strs_map (ss:=r))
theorem sum_le {B : Nat} : ∀ {ss : List (List Nat)},(∀ s∈ss,s.length≤B)→(ss.map List.length).sum≤ss.length * B
 | [],_=>Nat.zero_le _
 | s :: r,h=>by
  rw [List.map_cons,List.sum_cons,List.length_cons,Nat.succ_mul,Nat.add_comm]
  exact Nat.add_le_add (sum_le fun x hx=>h x (.tail _ hx)) (h s (.head _))
theorem join_fit {ss : List (List Nat)} (hZ : Z≤100000) (hs : ∀ s∈ss,s.length≤1 * Z + 8) (hl : ss.length≤40) (hp : sep.length≤8) : (ss.map List.length).sum + ss.length * sep.length≤LIM:=
 Nat.le_trans (Nat.add_le_add (sum_le hs) (Nat.le_refl _)) (Nat.le_trans (Nat.add_le_add (Nat.mul_le_mul hl (Nat.add_le_add_right (Nat.mul_le_mul_left 1 hZ) 8)) (Nat.mul_le_mul hl hp)) (by decide))
theorem join_w (e : xs=ss.map .str) (h : (ss.map List.length).sum + ss.length * sep.length≤LIM) (q : Q (.d (.str (joinS sep ss))) σ) : Ok (mthV .join σ (.d (.str sep)) [.d (.lst xs)]) Q:=by
 show Ok (match strsOf xs with
  | some ss=>if decide ((ss.map List.length).sum + ss.length * sep.length≤LIM) then .ok (.d (.str (joinS sep ss))) σ else .no
  | none=>.no) Q
 rw [e,strs_map]; exact bin_ok (decide_eq_true h) q
theorem join_l (hp : σ[p]?=some (.lst xs)) (e : xs=ss.map .str) (h : (ss.map List.length).sum + ss.length * sep.length≤LIM) (q : Q (.d (.str (joinS sep ss))) σ) : Ok (mthV .join σ (.d (.str sep)) [.l p]) Q:=
 with_l (f:=fun d=>joinD sep d σ) hp (join_w (Q:=Q) e h q)
structure Row (Z : Nat) (ps : List (List Nat × TL)) : Prop where
 ok : ∀ q∈ps,POk Z q
 len : ps.length≤4
theorem Row.ln {ps : List (List Nat × TL)} (h : Row Z ps) : ∀ s∈tx1 ps,s.length≤1 * Z + 8:=fun s hs=>by
 obtain ⟨q,hq,e⟩:=List.mem_map.mp hs
 exact e ▸ Nat.le_trans (h.ok q hq).1.ln (Nat.le_add_right _ _)
theorem tx1_len {ps : List (List Nat × TL)} : (tx1 ps).length=ps.length:=List.length_map _
theorem Row.fit {ps : List (List Nat × TL)} (h : Row Z ps) (hZ : Z≤100000) (hp : sep.length≤8) : ((tx1 ps).map List.length).sum + (tx1 ps).length * sep.length≤LIM:=join_fit hZ h.ln (by rw [tx1_len]; exact Nat.le_trans h.len (by decide)) hp
theorem Row.tx {ps : List (List Nat × TL)} {C : Nat→Bool} {last : Bool} {ts : TL} (h : Row Z ps) (hb : Tx Z C 0 8 s ts) (hC : ∀ c,cS c=true→C c=true) (hs : SepOk sep) (hl : ps=[]→last=false) :
  Tx Z cE 4 41 ((s ++ joinS sep (tx1 ps)) ++ comX last) (fun r=>ts (rwT (tx2 ps) last r)):=
 (row_tx hb hC hs ps h.ok hl).mono (fun _=>id) (by rw [Nat.zero_add]; exact h.len) (Nat.add_le_add_right (Nat.add_le_add_left (Nat.mul_le_mul_right 8 h.len) 8) 1)
theorem sep_sp : SepOk [44,32]:=sep_gap .sp
theorem cmp_nil {v : V} {K : Bool→Prop} (hr : resD σ v=some (.lst xs)) (k : K xs.isEmpty) : Op (cmpV σ .eq v (.d (.lst []))) K:=by
 show Op (oR σ v fun x=>oR σ (.d (.lst [])) fun y=>if eqOk x y then some (D.eq x y) else none) K
 unfold oR; rw [hr]
 show Op (if eqOk (.lst xs) (.lst []) then some (D.eq (.lst xs) (.lst [])) else none) K
 rw [if_pos (show eqOk (.lst xs) (.lst [])=true from decide_eq_true (Nat.le_trans (Nat.min_le_right _ _) (by decide)))]
 cases xs <;> exact k
theorem res_l (h : σ[p]?=some (.lst xs)) : resD σ (.l p)=some (.lst xs):=by rw [resD.eq_def]; dsimp only; rw [h]
theorem join_v {v : V} (hr : resD σ v=some (.lst xs)) (e : xs=ss.map .str) (h : (ss.map List.length).sum + ss.length * sep.length≤LIM) (q : Q (.d (.str (joinS sep ss))) σ) : Ok (mthV .join σ (.d (.str sep)) [v]) Q:=by
 show Ok (withD σ v fun d=>joinD sep d σ) Q
 unfold withD; rw [hr]; exact join_w (Q:=Q) e h q
theorem w_angles {v : V} {ps : List (List Nat × TL)} (hn : 1≤n) (hr : resD σ v=some (.lst ((tx1 ps).map .str))) (h : Row Z ps) (hZ : Z≤100000) (q0 : ps=[]→Q (.d (.str [])) σ) (q : ∀ s,ps ≠ []→Tx Z cU 4 42 s (fun r=>.sg [60] :: rwT (tx2 ps) false (.sg [62] :: r))→hdC cU s=true→Q (.d (.str s)) σ) : Cl n .writeAngles [v] σ E Q:=
 def_k hn rfl fun m hm=>by
  refine cmp_nil hr ?_
  cases ps with
  | nil=>exact zd rfl (q0 rfl)
  | cons p ps=>
   have t:=row_end (e:=[62]) ((h.tx (Mine.Tx.mono (tx_open (s:=[60]) (B:=[60,61]) (k:=1) rfl rfl rfl) (fun _=>id) (Nat.le_refl _) (by decide)) (fun _=>id) sep_sp (last:=false) nofun)) rfl rfl rfl
   have t' : Tx Z cU 4 42 (([60] ++ joinS [44,32] (tx1 (p :: ps))) ++ [62]) (fun r=>.sg [60] :: rwT (tx2 (p :: ps)) false (.sg [62] :: r)):=by
    have:=t; rw [show comX false=[] from rfl,List.append_nil] at this; exact this
   have f:=t'.fit hZ (by decide) (by decide)
   exact join_v hr rfl (h.fit hZ (by decide)) (ad (pre f) (ad f (zd rfl (q _ nofun t' rfl))))
end
end Mine
namespace Mine
section
variable {Z i n m p : Nat} {x y s g a b sep bg en : List Nat} {xs : List D} {ps : List (List Nat × TL)} {σ : Store} {E : Ke} {Q : Kv} {N : Kn} {J : Mine.J} {u one : Bool} {P P' : Prop}
theorem one_iff {n : Nat} (h : ((n : Int) == 1)=u) : (n=0→u=false)∧(n=1→u=true):=by
 subst h
 exact ⟨fun e=>by subst e; rfl,fun e=>by subst e; rfl⟩
theorem ps_nil (h : ps.length=0→u=false) : ps=[]→u=false:=fun e=>h (by rw [e]; rfl)
theorem len_str {n : Nat} {ss : List (List Nat)} (h : ss.length=n) : ((ss.map D.str).length : Int)=(n : Int):=by rw [List.length_map,h]
theorem w_row (hn : 1≤n) (h : Row Z ps) (hZ : Z≤100000) (q : ∀ s last,(ps.length=1→last=true)→Tx Z cU 4 42 s (fun r=>.sg [40] :: rwT (tx2 ps) last (.sg [41] :: r))→hdC cS s=true→Q (.d (.str s)) σ) : Cl n .writeRow [.d (.lst ((tx1 ps).map .str))] σ E Q:=
 def_k hn rfl fun m hm=>
  have hu:=one_iff (n:=ps.length) (u:=(((tx1 ps).map D.str).length : Int) == 1) (by rw [len_str tx1_len])
  have t:=row_end (e:=[41]) (h.tx (last:=(((tx1 ps).map D.str).length : Int) == 1) (Mine.Tx.mono (tx_any (s:=[40]) (k:=1) rfl rfl) (fun _=>id) (Nat.le_refl _) (by decide)) c_A sep_sp (ps_nil hu.1)) rfl rfl rfl
  have f:=t.fit hZ (by decide) (by decide)
  join_w rfl (h.fit hZ (by decide)) (ad (pre (pre f)) (br_m (ad (pre f) (ad f (zd rfl (q _ _ hu.2 t rfl))))))
theorem cmp_neD {K : Bool→Prop} (k : K (!xs.isEmpty)) : Op (cmpV σ .ne (.d (.lst xs)) (.d (.lst []))) K:=by
 show Op (if eqOk (.lst xs) (.lst []) then some (!D.eq (.lst xs) (.lst [])) else none) K
 rw [if_pos (show eqOk (.lst xs) (.lst [])=true from decide_eq_true (Nat.le_trans (Nat.min_le_right _ _) (by decide)))]
 cases xs <;> exact k
theorem b1_c (p : u=true→P) (p' : u=false→P') : Br (u == true) P P':=by
 cases u with
 | false=>exact p' rfl
 | true=>exact p rfl
theorem SepOk.len (h : SepOk sep) : sep.length≤8:=(h 0).1.ln
theorem comma_l (hm : 1≤m) (hs : Srce σ i) (q : ∀ last σ',(xs=[]→last=false)→(one=true→xs.length=1→last=true)→Upd i σ σ'→N [some (.l i),some (.d (.lst xs)),some (.d (.str bg)),some (.d (.str en)),some (.d (.bool one)),some (.d (.str (comX last)))] σ') :
  wSs Bx (Cl m) ((F .lawRow).body.take 1) N J [some (.l i),some (.d (.lst xs)),some (.d (.str bg)),some (.d (.str en)),some (.d (.bool one)),none] σ:=by
 cases xs with
 | nil=>exact q false σ (fun _=>rfl) (fun _ h=>nomatch h) (.refl hs)
 | cons y ys=>
  refine cmp_neD (w_take1 (top:=2) hm hs (by decide) (by decide) fun k σ' hk u=>br_c ?_ (q true σ' (fun h=>nomatch h) (fun _ _=>rfl) u))
  cases one with
  | false=>exact q false σ' (fun h=>nomatch h) (fun h=>nomatch h) u
  | true=>exact b1_c (fun _=>q true σ' (fun h=>nomatch h) (fun _ _=>rfl) u) fun e=>q false σ' (fun h=>nomatch h) (fun _ h=>((one_iff e).2 h)) u
theorem l_row (hn : 4≤n) (hs : Srce σ i) (h : Row Z ps) (hZ : Z≤100000) {C : Nat→Bool} {ts : TL} (hb : Tx Z C 0 1 bg ts) (hC : ∀ c,cS c=true→C c=true) (hg : gB C=true) (he : sgCl en=true) (hd : hdC cE en=true) (he1 : en.length.ble 1=true)
  (q : ∀ s last σ',(one=true→ps.length=1→last=true)→Tx Z cU 4 49 s (fun r=>ts (rwT (tx2 ps) last (.sg en :: r)))→(∀ C,hdC C bg=true→hdC C s=true)→Upd i σ σ'→Q (.d (.str s)) σ') :
  Cl n .lawRow [.l i,.d (.lst ((tx1 ps).map .str)),.d (.str bg),.d (.str en),.d (.bool one)] σ E Q:=
 def_k hn rfl fun m hm=>comma_l (N:=wSs Bx (Cl m) ((F .lawRow).body.drop 1) (Nd σ.length Q) (Jd σ.length E Q)) (Nat.le_trans (by decide) hm) hs fun last σ1 h0 h1 u1=>
  w_gap hm u1.src fun g1 σ2 hg1 u2=>by
   have hb' : Tx Z C 0 8 (bg ++ g1) ts:=hg1 hg hb
   refine ad (hb'.fit hZ (by decide) (by decide)) (w_gap hm u2.src fun g2 σ3 hg2 u3=>ad ((sep_gap hg2 Z).1.fit hZ (by decide) (by decide)) (join_w rfl (h.fit hZ (sep_gap hg2).len) ?_))
   have t:=h.tx (last:=last) hb' hC (sep_gap hg2) fun e=>h0 (by rw [e]; rfl)
   have f:=t.fit hZ (by decide) (by decide)
   refine ad (pre f) (ad f (w_gap hm u3.src fun g3 σ4 hg3 u4=>?_))
   have t3:=hg3 (C:=cE) rfl t
   have t4:=row_end t3 he hd he1
   have uu:=((u1.trans u2).trans u3).trans u4
   exact ad (t3.fit hZ (by decide) (by decide)) (ad (t4.fit hZ (by decide) (by decide)) (zd uu.len (q _ last σ4 (fun e e'=>h1 e (by rw [List.length_map,tx1_len,e'])) t4 (fun C hC=>hdC.app (hdC.app (hdC.app (hdC.app (hdC.app hC))))) uu)))
end
end Mine
namespace Mine
structure GT (Z k g : Nat) (t : D) : Prop where
 wr : ∀ ⦃n⦄,k≤n→∀ ⦃σ E Q⦄,(∀ s w,TX Z 1 0 k s w t→Q (.d (.str s)) σ)→Cl n .writeType [.d t] σ E Q
 lw : ∀ ⦃n⦄,k≤n→∀ ⦃σ i E Q⦄,Srce σ i→(∀ s w σ',TX Z 1 0 k s w t→Upd i σ σ'→Q (.d (.str s)) σ')→Cl n .lawTypeText [.l i,.d t] σ E Q
 dep : t.dep≤g
 sz : sz t≤Z
inductive GS (Z k g : Nat) (first : Bool) : D→Prop
 | mk {nm : List Nat} {rs : List (List Nat)} {ts : List D} : nmB first nm=true→(∀ r∈rs,regSet.contains r=true)→rs.length≤2→(∀ t∈ts,GT Z k g t)→ts.length≤2→GS Z k g first (.tup [.str nm,.tup (rs.map .str),.tup ts])
section
variable {Z Z' c k l i n m p g : Nat} {C : Nat→Bool} {x y s a b sep bt nm : List Nat} {xs found : List D} {rs : List (List Nat)} {ts : List D} {its : List It} {w : TL} {d : D} {σ : Store} {E : Ke} {Q : Kv} {N : Kn} {J : Mine.J} {u e first : Bool}
theorem Tx.up (h : Tx Z C c k s w) (hz : c * Z + k≤Z') : Tx Z' C 1 0 s w:=⟨h.lx,Nat.le_trans h.ln (by rw [Nat.one_mul]; exact hz)⟩
theorem TX.up {t : D} {k' : Nat} (h : TX Z c l k s w t) (hz : c * Z + l≤Z') (hk : k≤k') : TX Z' 1 0 k' s w t:=⟨h.tx.up hz,h.hd,h.ty.mono hk⟩
theorem TX.up' {t : D} {k' : Nat} (h : TX Z c l k s w t) (hk : k≤k') : TX Z c l k' s w t:=⟨h.tx,h.hd,h.ty.mono hk⟩
theorem TX.le {t : D} {c' l' : Nat} (h : TX Z c l k s w t) (hc : c≤c') (hl : l≤l') : TX Z c' l' k s w t:=⟨h.tx.mono (fun _=>id) hc hl,h.hd,h.ty⟩
noncomputable def regP (f : List Nat→List Nat) (rs : List (List Nat)) : List (List Nat × TL):=rs.map fun r=>(f r,fun q=>.rg r :: q)
theorem regP_w {f : List Nat→List Nat} : tx2 (regP f rs ++ itP its)=regL rs ++ plist (itT its):=by
 rw [← itP_w]; unfold tx2 regP regL; rw [List.map_append,List.map_map]; rfl
theorem regP_s {f : List Nat→List Nat} : (tx1 (regP f rs ++ itP its)).map D.str=(rs.map f).map .str ++ its.map fun i=>.str i.1:=by
 unfold tx1 regP itP; rw [List.map_append,List.map_append,List.map_map,List.map_map,List.map_map,List.map_map,List.map_map]; rfl
noncomputable def IOk (Z k : Nat) (i : It) : Prop:=TX Z 1 0 k i.1 i.2.1 i.2.2
theorem TX.pk {i : It} (h : TX Z 1 0 k i.1 i.2.1 i.2.2) : POk Z (i.1,i.2.1):=⟨h.tx,h.hd⟩
theorem it_row (hI : ∀ i∈its,POk Z (i.1,i.2.1)) : ∀ q∈itP its,POk Z q:=fun q hq=>by
 obtain ⟨i,hi,e⟩:=List.mem_map.mp hq
 exact e ▸ hI i hi
theorem args_row {f : List Nat→List Nat} (hf : ∀ r,regSet.contains r=true→POk Z (f r,fun q=>.rg r :: q)) (hr : ∀ r∈rs,regSet.contains r=true) (hl : rs.length≤2) (hI : ∀ i∈its,POk Z (i.1,i.2.1)) (hl2 : its.length≤2) : Row Z (regP f rs ++ itP its):=
 ⟨fun q hq=>(List.mem_append.mp hq).elim (fun hq=>by
   obtain ⟨r,hr',e⟩:=List.mem_map.mp hq
   exact e ▸ hf r (hr r hr')) (it_row hI q),by rw [List.length_append,regP,List.length_map,itP,List.length_map]; exact Nat.add_le_add hl hl2⟩
theorem reg_pok (hz : 10≤Z) (r : List Nat) (h : regSet.contains r=true) : POk Z (r,fun q=>.rg r :: q):=⟨(tx_rg (Z:=Z) h).1.up (by rw [Nat.zero_mul]; exact Nat.le_trans (by decide) hz),(tx_rg (Z:=Z) h).2⟩
noncomputable def segB : List S:=[.asg 6 (.call .writeAngles [(.bin .add (.prim .list false [(.v 4)]) (.comp false (.call .writeType [(.v 7)]) [7] (.v 5)))]),.app 2 (.bin .add (.v 3) (.ite (.cmp .ne (.v 6) (.c (.str []))) (.bin .add (.v 1) (.v 6)) (.c (.str []))))]
theorem ne_e (h : hdC C s=true) : (!(s == []))=true:=by
 cases s with
 | nil=>cases h
 | cons=>rfl
theorem fit2 {xs ys : List D} (h : xs.length≤2) (h' : ys.length≤2) : fitD (xs ++ ys)=true:=fit_small (by rw [List.length_append]; exact Nat.le_trans (Nat.add_le_add h h') (by decide))
theorem wseg (hz : 10≤Z) (hZ : Z≤100000) (hk : k≤m) (hm : 1≤m) (hr : ∀ r∈rs,regSet.contains r=true) (hl : rs.length≤2) (ht : ∀ t∈ts,GT Z k g t) (hl2 : ts.length≤2) (hn : nmB first nm=true) (hp : σ[p]?=some (.lst found)) (hf : found.length≤2) {v0 x6 x7 : Option V}
  (q : ∀ s w y6 y7,SX Z 4 49 k e first s w (.tup [.str nm,.tup (rs.map .str),.tup ts])→N [v0,some (.d (.str (colX e))),some (.l p),some (.d (.str nm)),some (.d (.tup (rs.map .str))),some (.d (.tup ts)),y6,y7] (σ.set p (.lst (found ++ [.str s])))) :
  wSs Bx (Cl m) segB N J [v0,some (.d (.str (colX e))),some (.l p),some (.d (.str nm)),some (.d (.tup (rs.map .str))),some (.d (.tup ts)),x6,x7] σ:=by
 have hlr : (rs.map D.str).length≤2:=by rw [List.length_map]; exact hl
 refine mk_ok (fit_small (Nat.le_trans hlr (by decide))) ⟨comp_w (α:=It) (key:=fun i=>i.2.2) (val:=fun i=>.str i.1) (P:=IOk Z k) (U:=fun τ=>τ=σ) ts [] rfl (Nat.le_trans (Nat.le_of_eq (Nat.zero_add _)) (Nat.le_trans hl2 (by decide))) (fun x hx τ K' hU q'=>?_) fun its τ ek hI hU=>?_⟩
 ·exact (ht x hx).wr hk fun s w t=>q' (s,(w,x)) τ rfl t hU
 subst hU; subst ek
 have hil : its.length≤2:=by rw [List.length_map] at hl2; exact hl2
 have hvl : (its.map fun i=>D.str i.1).length≤2:=by rw [List.length_map]; exact hil
 refine mk_ok (fit_small (Nat.le_trans hvl (by decide))) (bin_ok (fit2 hlr hvl) ?_)
 refine w_angles (ps:=regP id rs ++ itP its) hm (by rw [regP_s,List.map_id]; rfl) (args_row (reg_pok hz) hr hl (fun i hi=>(hI i hi).pk) hil) hZ (fun e0=>?_) fun s ne t hd=>?_
 ·obtain ⟨h1,h2⟩:=List.append_eq_nil_iff.mp e0
  cases rs with
  | cons=>cases h1
  | nil=>cases its with
   | cons=>cases h2
   | nil=>
    have sx0 : SX Z 0 5 k e first nm (fun r=>.nm nm :: r) (.tup [.str nm,.tup [],.tup []]):=sx_bare hn
    have sx : SX Z 4 49 k e first (nm ++ []) (fun r=>.nm nm :: r) (.tup [.str nm,.tup [],.tup []]):=by
     rw [List.append_nil]; exact ⟨sx0.tx.mono (fun _=>id) (by decide) (by decide),sx0.hd,sx0.sg⟩
    exact ls hp (ad (sx.tx.fit hZ (by decide) (by decide)) (ls hp (bt (fit2 hf (Nat.le_succ 1)) (q _ _ _ _ sx))))
 ·rw [regP_w] at t
  have sx:=(sx_args (k:=k) (e:=e) (col:=e) (rs:=rs) (its:=its) hn (by cases e; exact .inr rfl; exact .inl rfl) (fun i hi=>(hI i hi).ty) (Nat.le_trans (Nat.add_le_add hl hil) (by decide)) t hd).1
  have f:=sx.tx.fit hZ (by decide) (by decide)
  exact ls hp (br_t (ne_e hd) (ad (suf f) (ad f (ls hp (bt (fit2 hf (Nat.le_succ 1)) (q _ _ _ _ sx))))))
end
end Mine
namespace Mine
inductive GP (Z k g : Nat) : List D→Prop
 | one {s : D} : GS Z k g true s→GP Z k g [s]
 | two {s t : D} : GS Z k g true s→GS Z k g false t→GP Z k g [s,t]
section
variable {Z k n m g : Nat} {s t : List Nat} {ds : List D} {d : D} {σ : Store} {E : Ke} {Q : Kv} {e : Bool}
noncomputable def vsT (e : Bool) : List V:=if e then [.d (.str [58,58])] else []
theorem bind_wp : bindV (F .writePath) (.d (.tup ds) :: vsT e)=some [some (.d (.tup ds)),some (.d (.str (colX e))),none,none,none,none,none,none]:=by cases e <;> rfl
theorem len_le {Z' c l : Nat} (hZ : Z≤100000) (h : s.length≤c * Z + l) (hc : c≤40) (hl : l≤10000) : s.length≤LIM:=Nat.le_trans h (big hZ hc hl)
theorem sum2 (hZ : Z≤100000) (ha : s.length≤4 * Z + 49) (hb : t.length≤4 * Z + 49) : ([s,t].map List.length).sum + 2 * 2≤LIM:=by
 show s.length + (t.length + 0) + 2 * 2≤LIM
 exact Nat.le_trans (Nat.add_le_add_right (Nat.add_le_add ha hb) 4) (by unfold LIM; omega)
theorem w_path (hz : 10≤Z) (hZ : Z≤100000) (h : GP Z k g ds) (hk : k + 1≤n) (hn : 2≤n) (q : ∀ s w,PX Z 8 107 k e s w ds→Q (.d (.str s)) σ) : Cl n .writePath (.d (.tup ds) :: vsT e) σ E Q:=by
 cases n with
 | zero=>cases hn
 | succ m=>
  refine def_s bind_wp ?_
  have hm:=sl hn
  have hk:=sl hk
  have cut : ∀ {e : Ent},((σ ++ [Ent.lst []]).set σ.length e).take σ.length=σ:=take_set' (Nat.le_refl _) List.take_left
  cases h with
  | one h=>cases h with
   | mk h1 h2 h3 h4 h5=>
    exact ⟨wseg (found:=[]) hz hZ hk hm h2 h3 h4 h5 h1 get_top (Nat.zero_le 2) fun s w y6 y7 sx=>join_l (ss:=[s]) (get_set get_top) rfl (Nat.le_trans (Nat.add_le_add_right sx.tx.ln 2) (by unfold LIM; omega)) (zc (cut.symm ▸ q _ _ (px_one ⟨sx.tx.mono (fun _=>id) (by decide) (by decide),sx.hd,sx.sg⟩)))⟩
  | two h h'=>cases h with
   | mk h1 h2 h3 h4 h5=>cases h' with
    | mk i1 i2 i3 i4 i5=>
     exact ⟨wseg (found:=[]) hz hZ hk hm h2 h3 h4 h5 h1 get_top (Nat.zero_le 2) fun s w y6 y7 sx=>wseg (found:=[.str s]) hz hZ hk hm i2 i3 i4 i5 i1 (get_set get_top) (Nat.le_succ 1) fun s' w' z6 z7 sx'=>
      join_l (ss:=[s,s']) (get_set (get_set get_top)) rfl (sum2 hZ sx.tx.ln sx'.tx.ln) (zc ((take_set' (Nat.le_refl _) cut).symm ▸ q _ _ (have p:=px_two .nil sx sx'; ⟨p.tx,p.hd,p.pp⟩)))⟩
end
end Mine
namespace Mine
structure Lv (Z Z' : Nat) : Prop where
 lo : 10≤Z
 hi : Z≤100000
 up : 8 * Z + 200≤Z'
noncomputable def WrT (Z k : Nat) (t : D) : Prop:=∀ ⦃n⦄,k≤n→∀ ⦃σ E Q⦄,(∀ s w,TX Z 1 0 k s w t→Q (.d (.str s)) σ)→Cl n .writeType [.d t] σ E Q
section
variable {Z Z' k k' n m g c l : Nat} {s : List Nat} {w : TL} {ds ts : List D} {t : D} {σ : Store} {E : Ke} {Q : Kv} {rx : Option (List Nat)} {mu : Bool}
theorem TX.lv (v : Lv Z Z') (h : TX Z c l k s w t) (hc : c≤8) (hl : l≤200) (hk : k≤k') : TX Z' 1 0 k' s w t:=h.up (Nat.le_trans (Nat.add_le_add (Nat.mul_le_mul_right Z hc) hl) v.up) hk
theorem wt_path (v : Lv Z Z') (h : GP Z k g ds) : WrT Z' (k + 15) (.tup [.str [112,97,116,104],.int 0,.tup ds]):=fun n hn σ E Q q=>def_k hn rfl fun m hm=>
 w_path (e:=false) v.lo v.hi h (Nat.le_trans (Nat.add_le_add_left (by decide) k) hm) (dl (tl hm) rfl) fun s w px=>zd rfl (q s w ((TX.path px).lv v (Nat.le_refl _) (by decide) (Nat.add_le_add_left (by decide) k)))
theorem wt_never (v : Lv Z Z') : WrT Z' (k + 15) (.tup [.str [110,101,118,101,114],.int 0]):=fun n hn σ E Q q=>def_k hn rfl fun m hm=>zd rfl (q _ _ (TX.never.lv v (by decide) (by decide) (Nat.le_trans (by decide) (Nat.le_add_left 15 k))))
theorem wt_infer (v : Lv Z Z') : WrT Z' (k + 15) (.tup [.str [105,110,102,101,114],.int 0]):=fun n hn σ E Q q=>def_k hn rfl fun m hm=>zd rfl (q _ _ (TX.infer.lv v (by decide) (by decide) (Nat.le_trans (by decide) (Nat.le_add_left 15 k))))
theorem wt_ref (v : Lv Z Z') (hx : ∀ x,rx=some x→regSet.contains x=true) (h : GT Z k g t) : WrT Z' (k + 15) (refD rx mu t):=fun n hn σ E Q q=>def_k hn rfl fun m hm=>by
 have hk : k≤m:=Nat.le_trans (Nat.le_add_right k 14) hm
 have fin : ∀ {N : Kv},(∀ s w,TX Z' 1 0 (k + 15) ((([38] ++ regX rx) ++ mutX mu) ++ s) w (refD rx mu t)→fitS ((([38] ++ regX rx) ++ mutX mu) ++ s)=true→N (.d (.str s)) σ)→Cl m .writeType [.d t] σ (fun τ=>E (τ.take σ.length)) N:=fun k'=>h.wr hk fun s w tx=>by
  have tr:=TX.ref (rx:=rx) (m:=mu) hx tx
  exact k' s _ (tr.lv v (by decide) (by decide) (Nat.add_le_add_left (by decide) k)) (tr.tx.fit v.hi (by decide) (by decide))
 have f0 : fitS ((([38] ++ regX rx) ++ mutX mu))=true:=(tx_mut (m:=mu) (tx_reg (rx:=rx) (tx_open (Z:=0) (s:=[38]) (k:=1) (B:=[61]) rfl rfl rfl) hx)).fit (Nat.zero_le _) (by decide) (by decide)
 cases rx with
 | none=>exact (br_m (ad f0 (fin fun s w tx f=>ad f (zd rfl (q _ _ tx)))))
 | some x=>exact ad (suf (pre f0)) (ad (pre f0) (br_m (ad f0 (fin fun s w tx f=>ad f (zd rfl (q _ _ tx))))))
theorem it_str {its : List It} : its.map (fun i=>D.str i.1)=(tx1 (itP its)).map D.str:=by unfold tx1 itP; rw [List.map_map,List.map_map]; rfl
theorem itP_len {its : List It} : (itP its).length=its.length:=List.length_map _
theorem it_Row {its : List It} (hI : ∀ i∈its,IOk Z k i) (hl : its.length≤4) : Row Z (itP its):=⟨it_row fun i hi=>(hI i hi).pk,by rw [itP_len]; exact hl⟩
theorem wt_tup (v : Lv Z Z') (h : ∀ t∈ts,GT Z k g t) (hl : ts.length≤4) : WrT Z' (k + 15) (.tup [.str [116,117,112,108,101],.int 0,.tup ts]):=fun n hn σ E Q q=>def_k hn rfl fun m hm=>
 ⟨comp_w (α:=It) (key:=fun i=>i.2.2) (val:=fun i=>.str i.1) (P:=IOk Z k) (U:=fun τ=>τ=σ) ts [] rfl (Nat.le_trans (Nat.le_of_eq (Nat.zero_add _)) (Nat.le_trans hl (by decide)))
  (fun x hx τ K' hU q'=>(h x hx).wr (Nat.le_trans (Nat.le_add_right k 14) hm) fun s w t=>q' (s,(w,x)) τ rfl t hU) fun its τ ek hI hU=>by
   subst hU; subst ek
   have hl' : its.length≤4:=by rw [List.length_map] at hl; exact hl
   refine mk_ok (fit_small (Nat.le_trans (Nat.le_of_eq (List.length_map _)) (Nat.le_trans hl' (by decide)))) ?_
   rw [List.nil_append,it_str]
   refine w_row (dl (tl hm) rfl) (it_Row hI hl') v.hi fun s last h1 t hd=>zd rfl (q _ _ (TX.lv v (TX.tup (its:=its) (last:=last) (fun i hi=>(hI i hi).ty) (Nat.le_trans hl' (by decide)) (by rw [← itP_len]; exact h1) (itP_w its ▸ t) hd) (by decide) (by decide) (Nat.add_le_add_left (by decide) k)))⟩
structure Num (v : Nat) (x : List Nat) : Prop where
 n1 : (x,v,false)∈NB
 n2 : (x ++ [117,115,105,122,101],v,true)∈NB
 st : ∀ {mu : Bool} {σ : Store} {Q : Kv},Q (.d (.str x)) σ→Ok (primV .str mu σ [.d (.int (v : Int))]) Q
theorem wt_arr {a : Nat} {x : List Nat} (v : Lv Z Z') (hx : Num a x) (h : GT Z k g t) : WrT Z' (k + 15) (.tup [.str [97,114,114,97,121],.int 0,t,.int (a : Int)]):=fun n hn σ E Q q=>def_k hn rfl fun m hm=>
 h.wr (Nat.le_trans (Nat.le_add_right k 14) hm) fun s w tx=>by
  have tr:=tx.arr hx.n1
  have f:=tr.tx.fit v.hi (by decide) (by decide)
  exact ad (pre (pre (pre f))) (ad (pre (pre f)) (hx.st (ad (pre f) (ad f (zd rfl (q _ _ (tr.lv v (by decide) (by decide) (Nat.add_le_add_left (by decide) k))))))))
end
end Mine
namespace Mine
section
variable {Z Z' k k' n m g c l i : Nat} {s nm : List Nat} {rs : List (List Nat)} {xs ds ts acc : List D} {its : List It} {w : TL} {t d : D} {σ σ₀ : Store} {E : Ke} {Q : Kv} {N : Kn} {J : Mine.J} {e first col : Bool} {v1 v2 v3 v4 v5 v6 v7 v8 v9 v10 : Option V}
theorem cmp_neT {K : Bool→Prop} (k : K (!xs.isEmpty)) : Op (cmpV σ .ne (.d (.tup xs)) (.d (.tup []))) K:=by
 show Op (if eqOk (.tup xs) (.tup []) then some (!D.eq (.tup xs) (.tup [])) else none) K
 rw [if_pos (show eqOk (.tup xs) (.tup [])=true from decide_eq_true (Nat.le_trans (Nat.min_le_right _ _) (by decide)))]
 cases xs <;> exact k
theorem reg_sp (hz : 10≤Z) (r : List Nat) (h : regSet.contains r=true) : POk Z (r ++ [32],fun q=>.rg r :: q):=
 ⟨((tx_rg (Z:=Z) h).1.app (.blank (C:=cU) (.inl rfl)) rfl).up (by rw [Nat.add_zero,Nat.zero_mul]; exact Nat.le_trans (by decide) hz),hdC.app (tx_rg (Z:=Z) h).2⟩
theorem comp_sp {K : List D→Store→Prop} : ∀ (rs : List (List Nat)) (acc : List D),(∀ r∈rs,regSet.contains r=true)→acc.length + rs.length≤1000→K (acc ++ (rs.map (· ++ [32])).map .str) σ →
  wComp (wX Bx (Cl m) (.bin .add (.v 9) (.c (.str [32])))).v (fun _ σ _ K=>K true σ) [some (.l i),v1,v2,v3,v4,v5,v6,v7,v8,v9,v10] [9] (rs.map .str) acc σ K
 | [],acc,_,h,k=>bt (fit_small h) ((List.append_nil acc) ▸ k)
 | r :: rs,acc,hr,h,k=>by
  refine ad ((reg_sp (Z:=10) (Nat.le_refl _) r (hr r (.head _))).1.fit (by decide) (by decide) (by decide)) ?_
  exact comp_sp rs (acc ++ [.str (r ++ [32])]) (fun x hx=>hr x (.tail _ hx)) (by rw [List.length_append,Nat.add_assoc,Nat.add_comm [D.str _].length]; exact h) (by rw [List.append_assoc]; exact k)
noncomputable def lsegB : List S:=[.asg 8 (.bin .add (.comp false (.bin .add (.v 9) (.c (.str [32]))) [9] (.v 5)) (.comp false (.call .lawTypeText [(.v 0),(.v 10)]) [10] (.v 6))),.asg 7 (.bin .add (.bin .add (.v 7) (.ite (.bop true [(.v 2),(.cmp .eq (.call .lawTake [(.v 0),(.c (.int 2))]) (.c (.int 0)))]) (.c (.str [])) (.c (.str [58,58])))) (.call .lawRow [(.v 0),(.v 8),(.c (.str [60])),(.c (.str [62])),(.c (.bool false))]))]
theorem lseg7 (hZ : Z≤100000) (hm : 4≤m) (hs : Srce σ i) (hn : nmB first nm=true) (hR : Row Z (regP (· ++ [32]) rs ++ itP its)) (hI : ∀ i∈its,IOk Z k i) (hl : rs.length + its.length≤1000)
  (q : ∀ s w σ',SX Z 4 56 k e first s w (.tup [.str nm,.tup (rs.map .str),.tup (itD its)])→Upd i σ σ'→N [some (.l i),v1,some (.d (.bool (!e))),v3,v4,v5,v6,some (.d (.str s)),some (.d (.lst ((tx1 (regP (· ++ [32]) rs ++ itP its)).map .str))),v9,v10] σ') :
  wSs Bx (Cl m) (lsegB.drop 1) N J [some (.l i),v1,some (.d (.bool (!e))),v3,v4,v5,v6,some (.d (.str nm)),some (.d (.lst ((tx1 (regP (· ++ [32]) rs ++ itP its)).map .str))),v9,v10] σ:=by
 have tail : ∀ col σ1,(col=true∨e=false)→Upd i σ σ1→Ok (binV σ1 .add (.d (.str nm)) (.d (.str (colX col)))) fun v σ=>Cl m .lawRow [.l i,.d (.lst ((tx1 (regP (· ++ [32]) rs ++ itP its)).map .str)),.d (.str [60]),.d (.str [62]),.d (.bool false)] σ J.E fun y σ=>Ok (binV σ .add v y) fun v σ=>N [some (.l i),v1,some (.d (.bool (!e))),v3,v4,v5,v6,some v,some (.d (.lst ((tx1 (regP (· ++ [32]) rs ++ itP its)).map .str))),v9,v10] σ:=fun col σ1 hc u1=>by
  have f0 : fitS (nm ++ colX col)=true:=by
   have h:=(tx_nm (Z:=0) (nm_set hn)).1
   cases col with
   | false=>exact h.nil.fit (Nat.zero_le _) (by decide) (by decide)
   | true=>exact (h.app (tx_any (s:=[58,58]) (k:=2) rfl rfl) rfl).fit (Nat.zero_le _) (by decide) (by decide)
  refine ad f0 (l_row hm u1.src hR hZ (tx_open (s:=[60]) (B:=[60,61]) (k:=1) rfl rfl rfl) (fun _=>id) rfl rfl rfl rfl fun s last σ2 _ t hd u2=>?_)
  rw [regP_w] at t
  have sx:=(sx_args (k:=k) (e:=e) (col:=col) (rs:=rs) (its:=its) hn hc (fun i hi=>(hI i hi).ty) hl t (hd cU rfl)).2
  exact ad (sx.tx.fit hZ (by decide) (by decide)) (q _ _ σ2 sx (u1.trans u2))
 cases e with
 | true=>exact tail true σ (.inl rfl) (.refl hs)
 | false=>exact w_take1 (top:=2) (Nat.le_trans (by decide) hm) hs (by decide) (by decide) fun k' σ1 _ u1=>b1_c (fun _=>tail false σ1 (.inr rfl) u1) fun _=>tail true σ1 (.inl rfl) u1
noncomputable def lsegA : List S:=[.asg 7 (.v 4),.if_ (.bop false [(.cmp .ne (.v 5) (.tup [])),(.cmp .ne (.v 6) (.tup []))]) lsegB [],.app 3 (.v 7)]
theorem l_seg (hz : 10≤Z) (hZ : Z≤100000) (hk : k≤m) (hm : 4≤m) (hi : i < σ₀.length) (hn : nmB first nm=true) (hr : ∀ r∈rs,regSet.contains r=true) (hl : rs.length≤2) (ht : ∀ t∈ts,GT Z k g t) (hl2 : ts.length≤2) (pi : PI i σ₀ acc σ) (hf : acc.length≤2)
  (q : ∀ s w σ' y7 y8 y9 y10,SX Z 4 56 k e first s w (.tup [.str nm,.tup (rs.map .str),.tup ts])→PI i σ₀ (acc ++ [.str s]) σ'→N [some (.l i),v1,some (.d (.bool (!e))),some (.l σ₀.length),some (.d (.str nm)),some (.d (.tup (rs.map .str))),some (.d (.tup ts)),y7,y8,y9,y10] σ') :
  wSs Bx (Cl m) lsegA N J [some (.l i),v1,some (.d (.bool (!e))),some (.l σ₀.length),some (.d (.str nm)),some (.d (.tup (rs.map .str))),some (.d (.tup ts)),v7,v8,v9,v10] σ:=by
 have fin : ∀ s w τ y8 y9 y10,SX Z 4 56 k e first s w (.tup [.str nm,.tup (rs.map .str),.tup ts])→PI i σ₀ acc τ→wSs Bx (Cl m) [.app 3 (.v 7)] N J [some (.l i),v1,some (.d (.bool (!e))),some (.l σ₀.length),some (.d (.str nm)),some (.d (.tup (rs.map .str))),some (.d (.tup ts)),some (.d (.str s)),y8,y9,y10] τ:=
  fun s w τ y8 y9 y10 sx pi=>ls pi.li (ls pi.li (bt (fit2 hf (Nat.le_succ 1)) (q s w _ _ _ _ _ sx (pi.push hi))))
 have main : wSs Bx (Cl m) lsegB (wSs Bx (Cl m) [.app 3 (.v 7)] N J) J [some (.l i),v1,some (.d (.bool (!e))),some (.l σ₀.length),some (.d (.str nm)),some (.d (.tup (rs.map .str))),some (.d (.tup ts)),some (.d (.str nm)),v8,v9,v10] σ:=by
  refine ⟨comp_sp rs [] hr (by rw [List.length_nil,Nat.zero_add]; exact Nat.le_trans hl (by decide)) (mk_ok (fit_small (by rw [List.nil_append,List.length_map,List.length_map]; exact Nat.le_trans hl (by decide))) ⟨comp_w (α:=It) (key:=fun i=>i.2.2) (val:=fun i=>.str i.1) (P:=IOk Z k) (U:=fun τ=>Upd i σ τ) ts [] (.refl pi.ex.src) (Nat.le_trans (Nat.le_of_eq (Nat.zero_add _)) (Nat.le_trans hl2 (by decide))) (fun x hx τ K' hU q'=>?_) fun its τ ek hI hU=>?_⟩)⟩
  ·exact (ht x hx).lw hk hU.src fun s w τ' tx u=>q' (s,(w,x)) τ' rfl tx (hU.trans u)
  subst ek
  have hil : its.length≤2:=by rw [List.length_map] at hl2; exact hl2
  refine mk_ok (fit_small (by rw [List.nil_append,List.length_map]; exact Nat.le_trans hil (by decide))) (bin_ok (fit2 (by rw [List.nil_append,List.length_map,List.length_map]; exact hl) (by rw [List.nil_append,List.length_map]; exact hil)) ?_)
  rw [List.nil_append,List.nil_append,← regP_s]
  exact lseg7 hZ hm hU.src hn (args_row (reg_sp hz) hr hl (fun i hi=>(hI i hi).pk) hil) hI (Nat.le_trans (Nat.add_le_add hl hil) (by decide)) fun s w σ' sx u=>fin s w σ' _ _ _ sx (pi.upd hi (hU.trans u))
 cases rs with
 | cons r rs=>exact cmp_neT main
 | nil=>cases ts with
  | cons t ts=>exact cmp_neT main
  | nil=>
   have sx0 : SX Z 0 5 k e first nm (fun r=>.nm nm :: r) (.tup [.str nm,.tup [],.tup []]):=sx_bare hn
   exact fin nm _ σ _ _ _ ⟨sx0.tx.mono (fun _=>id) (by decide) (by decide),sx0.hd,sx0.sg⟩ pi
end
end Mine
namespace Mine
section
variable {Z Z' k k' n m g c l i : Nat} {s t gp : List Nat} {ds ts acc : List D} {w : TL} {σ σ₀ : Store} {E : Ke} {Q : Kv} {e : Bool} {v1 v2 v4 v5 v6 v7 v8 v9 v10 : Option V}
theorem Gp.len (h : Gp gp) : gp.length≤7:=(h (Z:=0) (C:=cU) rfl Tx.emp).ln
theorem gp_fit (h : Gp gp) : fitS (gp ++ [58,58])=true:=decide_eq_true (by rw [List.length_append]; exact Nat.le_trans (Nat.add_le_add_right h.len 2) (by decide))
theorem gp_two (h : Gp gp) : (gp ++ [58,58]).length≤9:=by rw [List.length_append]; exact Nat.add_le_add_right h.len 2
theorem sum1' (hZ : Z≤100000) (ha : s.length≤4 * Z + 56) (hb : t.length≤9) : ([s].map List.length).sum + [s].length * t.length≤LIM:=by
 show s.length + 0 + 1 * t.length≤LIM
 unfold LIM; omega
theorem sum2' {u : List Nat} (hZ : Z≤100000) (ha : s.length≤4 * Z + 56) (hb : t.length≤4 * Z + 56) (hu : u.length≤9) : ([s,t].map List.length).sum + [s,t].length * u.length≤LIM:=by
 show s.length + (t.length + 0) + 2 * u.length≤LIM
 unfold LIM; omega
theorem l_path (hz : 10≤Z) (hZ : Z≤100000) (h : GP Z k g ds) (hs : Srce σ i) (hk : k + 1≤n) (hn : 5≤n) (q : ∀ s w σ',PX Z 8 121 k e s w ds→Upd i σ σ'→Q (.d (.str s)) σ') : Cl n .lawPathText [.l i,.d (.tup ds),.d (.bool (!e))] σ E Q:=by
 cases n with
 | zero=>cases hn
 | succ m=>
  refine def_s rfl ?_
  have hm:=sl hn
  have hk:=sl hk
  have hi:=hs.lt
  have h3 : 3≤m:=Nat.le_of_succ_le hm
  cases h with
  | one h=>cases h with
   | mk h1 h2 h3' h4 h5=>
    exact ⟨l_seg (acc:=[]) hz hZ hk hm hi h1 h2 h3' h4 h5 (.init hs) (Nat.zero_le 2) fun s w σ1 y7 y8 y9 y10 sx pi=>w_gap h3 pi.ex.src fun gp σ2 hg u=>ad (gp_fit hg) (join_l (ss:=[s]) (pi.upd hi u).li rfl (sum1' hZ sx.tx.ln (gp_two hg))
     (zc (q _ _ _ (px_one ⟨sx.tx.mono (fun _=>id) (by decide) (by decide),sx.hd,sx.sg⟩) ((pi.upd hi u).ex.cut hi))))⟩
  | two h h'=>cases h with
   | mk h1 h2 h3' h4 h5=>cases h' with
    | mk i1 i2 i3 i4 i5=>
     exact ⟨l_seg (acc:=[]) hz hZ hk hm hi h1 h2 h3' h4 h5 (.init hs) (Nat.zero_le 2) fun s w σ1 y7 y8 y9 y10 sx pi=>l_seg (acc:=[.str s]) hz hZ hk hm hi i1 i2 i3 i4 i5 pi (Nat.le_succ 1) fun s' w' σ1 z7 z8 z9 z10 sx' pi=>
      w_gap h3 pi.ex.src fun gp σ2 hg u=>ad (gp_fit hg) (join_l (ss:=[s,s']) (pi.upd hi u).li rfl (sum2' hZ sx.tx.ln sx'.tx.ln (gp_two hg)) (zc (q _ _ _ (px_two hg sx sx') ((pi.upd hi u).ex.cut hi))))⟩
end
end Mine
namespace Mine
noncomputable def LwT (Z k : Nat) (t : D) : Prop:=∀ ⦃n⦄,k≤n→∀ ⦃σ i E Q⦄,Srce σ i→(∀ s w σ',TX Z 1 0 k s w t→Upd i σ σ'→Q (.d (.str s)) σ')→Cl n .lawTypeText [.l i,.d t] σ E Q
section
variable {Z Z' k k' n m g c l i : Nat} {s gp x : List Nat} {ds ts : List D} {w : TL} {t : D} {σ τ : Store} {E : Ke} {Q : Kv} {rx : Option (List Nat)} {mu : Bool} {v2 v4 : Option V}
theorem lt_end (v : Lv Z Z') (tx : TX Z c l (k + 9) s w t) (hc : c≤8) (hl : l≤190) (hm : 3≤m) (u : Upd i σ τ) (q : ∀ s w σ',TX Z' 1 0 (k + 15) s w t→Upd i σ σ'→Q (.d (.str s)) σ') :
  wSs Bx (Cl m) ((F .lawTypeText).body.drop 2) (Nd σ.length Q) (Jd σ.length E Q) [some (.l i),some (.d t),v2,some (.d (.str s)),v4] τ:=
 w_take1 (top:=5) (Nat.le_of_succ_le (Nat.le_of_succ_le hm)) u.src (by decide) (by decide) fun _ τ1 _ u1=>br_c
  (w_gap hm u1.src fun gp τ2 hg u2=>by
   have uu:=(u.trans u1).trans u2
   have tp:=tx.par hg
   have f:=tp.tx.fit v.hi (by rw [Nat.zero_add]; exact Nat.le_trans hc (by decide)) (by omega)
   exact ad (pre (pre f)) (ad (pre f) (ad f (zd uu.len (q _ _ _ (tp.lv v (by rw [Nat.zero_add]; exact hc) (by omega) (Nat.le_succ _)) uu)))))
  (zd (u.trans u1).len (q _ _ _ (tx.lv v hc (Nat.le_trans hl (by decide)) (Nat.add_le_add_left (by decide) k)) (u.trans u1)))
theorem k3 (h : k + 14≤m) : 5≤m:=Nat.le_trans (by decide) (tl h)
theorem lt_path (v : Lv Z Z') (h : GP Z k g ds) : LwT Z' (k + 15) (.tup [.str [112,97,116,104],.int 0,.tup ds]):=fun n hn σ i E Q hs q=>def_k hn rfl fun m hm=>
 l_path (e:=false) v.lo v.hi h hs (Nat.le_trans (Nat.add_le_add_left (by decide) k) hm) (k3 hm) fun s w σ1 px u=>lt_end v (TX.path px) (Nat.le_refl _) (by decide) (Nat.le_trans (by decide) (k3 hm)) u q
theorem lt_never (v : Lv Z Z') : LwT Z' (k + 15) (.tup [.str [110,101,118,101,114],.int 0]):=fun n hn σ i E Q hs q=>def_k hn rfl fun m hm=>lt_end v (TX.never.up' (Nat.le_trans (by decide) (Nat.le_add_left 9 k))) (by decide) (by decide) (Nat.le_trans (by decide) (k3 hm)) (.refl hs) q
theorem lt_infer (v : Lv Z Z') : LwT Z' (k + 15) (.tup [.str [105,110,102,101,114],.int 0]):=fun n hn σ i E Q hs q=>def_k hn rfl fun m hm=>lt_end v (TX.infer.up' (Nat.le_trans (by decide) (Nat.le_add_left 9 k))) (by decide) (by decide) (Nat.le_trans (by decide) (k3 hm)) (.refl hs) q
theorem lt_ref (v : Lv Z Z') (hx : ∀ x,rx=some x→regSet.contains x=true) (h : GT Z k g t) : LwT Z' (k + 15) (refD rx mu t):=fun n hn σ i E Q hs q=>def_k hn rfl fun m hm=>by
 have fin : ∀ {N : Kv},(∀ s w τ,TX Z 1 15 (k + 9) ((([38] ++ regX rx) ++ mutX mu) ++ s) w (refD rx mu t)→fitS ((([38] ++ regX rx) ++ mutX mu) ++ s)=true→Upd i σ τ→N (.d (.str s)) τ)→Cl m .lawTypeText [.l i,.d t] σ (fun τ=>E (τ.take σ.length)) N:=fun k'=>h.lw (Nat.le_trans (Nat.le_add_right k 14) hm) hs fun s w τ tx u=>by
  have tr:=TX.ref (rx:=rx) (m:=mu) hx tx
  exact k' s _ τ ((tr.up' (Nat.add_le_add_left (by decide) k)).le (by decide) (by decide)) (tr.tx.fit v.hi (by decide) (by decide)) u
 have f0 : fitS ((([38] ++ regX rx) ++ mutX mu))=true:=(tx_mut (m:=mu) (tx_reg (rx:=rx) (tx_open (Z:=0) (s:=[38]) (k:=1) (B:=[61]) rfl rfl rfl) hx)).fit (Nat.zero_le _) (by decide) (by decide)
 cases rx with
 | none=>exact br_m (ad f0 (fin fun s w τ tx f u=>ad f (lt_end v tx (by decide) (by decide) (Nat.le_trans (by decide) (k3 hm)) u q)))
 | some x=>exact ad (suf (pre f0)) (ad (pre f0) (br_m (ad f0 (fin fun s w τ tx f u=>ad f (lt_end v tx (by decide) (by decide) (Nat.le_trans (by decide) (k3 hm)) u q)))))
theorem lt_arr {a : Nat} (v : Lv Z Z') (hx : Num a x) (h : GT Z k g t) : LwT Z' (k + 15) (.tup [.str [97,114,114,97,121],.int 0,t,.int (a : Int)]):=fun n hn σ i E Q hs q=>def_k hn rfl fun m hm=>
 h.lw (Nat.le_trans (Nat.le_add_right k 14) hm) hs fun s w τ tx u=>by
  have f0 : fitS ([91] ++ s)=true:=((tx_any (Z:=Z) (s:=[91]) (k:=1) rfl rfl).app tx.tx (hdC.mono tx.hd c_A)).fit v.hi (by decide) (by decide)
  refine ad f0 (w_gap (Nat.le_trans (by decide) (k3 hm)) u.src fun gp τ2 hg u2=>?_)
  have tr:=tx.arrL hg hx.n2
  have f:=tr.tx.fit v.hi (by decide) (by decide)
  exact ad (pre (pre (pre f))) (ad (pre (pre f)) (hx.st (ad (pre f) (ad f (lt_end v (tr.up' (Nat.add_le_add_left (by decide) k)) (by decide) (by decide) (Nat.le_trans (by decide) (k3 hm)) (u.trans u2) q)))))
theorem lt_tup (v : Lv Z Z') (h : ∀ t∈ts,GT Z k g t) (hl : ts.length≤4) : LwT Z' (k + 15) (.tup [.str [116,117,112,108,101],.int 0,.tup ts]):=fun n hn σ i E Q hs q=>def_k hn rfl fun m hm=>
 ⟨comp_w (α:=It) (key:=fun i=>i.2.2) (val:=fun i=>.str i.1) (P:=IOk Z k) (U:=fun τ=>Upd i σ τ) ts [] (.refl hs) (Nat.le_trans (Nat.le_of_eq (Nat.zero_add _)) (Nat.le_trans hl (by decide)))
  (fun x hx τ K' hU q'=>(h x hx).lw (Nat.le_trans (Nat.le_add_right k 14) hm) hU.src fun s w τ' t u=>q' (s,(w,x)) τ' rfl t (hU.trans u)) fun its τ ek hI hU=>by
   subst ek
   have hl' : its.length≤4:=by rw [List.length_map] at hl; exact hl
   refine mk_ok (fit_small (Nat.le_trans (Nat.le_of_eq (List.length_map _)) (Nat.le_trans hl' (by decide)))) ?_
   rw [List.nil_append,it_str]
   refine l_row (Nat.le_trans (by decide) (k3 hm)) hU.src (it_Row hI hl') v.hi (tx_any (s:=[40]) (k:=1) rfl rfl) c_A rfl rfl rfl rfl fun s last τ' h1 t hd u=>?_
   exact lt_end v ((TX.tup (its:=its) (last:=last) (fun i hi=>(hI i hi).ty) (Nat.le_trans hl' (by decide)) (by rw [← itP_len]; exact h1 rfl) (itP_w its ▸ t) (hd cS rfl)).up' (Nat.add_le_add_left (by decide) k)) (by decide) (by decide) (Nat.le_trans (by decide) (k3 hm)) (hU.trans u) q⟩
end
end Mine
namespace Mine
section
variable {Z Z' k k' n m g c l i kk : Nat} {s gp x : List Nat} {xs ds ts acc : List D} {w : TL} {t d : D} {σ τ σ₀ : Store} {E : Ke} {Q : Kv} {N : Kn} {J : Mine.J} {rx : Option (List Nat)} {mu first : Bool} {z : Int} {v1 v2 v3 v4 v5 v6 v7 : Option V}
theorem deps_le : ∀ {xs : List D},(∀ x∈xs,x.dep≤g)→D.deps xs≤g
 | [],_=>Nat.zero_le _
 | x :: xs,h=>Nat.max_le.mpr ⟨h x (.head _),deps_le fun y hy=>h y (.tail _ hy)⟩
theorem depA : ∀ {xs : List D},allP (fun x=>x.dep≤g) xs→D.deps xs≤g
 | [],_=>Nat.zero_le _
 | x :: xs,h=>Nat.max_le.mpr ⟨h.1,depA h.2⟩
theorem dep_t (h : D.deps xs≤g) : (D.tup xs).dep≤g + 1:=Nat.succ_le_succ h
theorem szs_le : ∀ {xs : List D},(∀ x∈xs,sz x≤Z)→szs xs≤xs.length * Z
 | [],_=>Nat.zero_le _
 | x :: xs,h=>by
  rw [List.length_cons,Nat.succ_mul,Nat.add_comm]
  exact Nat.add_le_add (h x (.head _)) (szs_le fun y hy=>h y (.tail _ hy))
theorem str_dep : ∀ {rs : List (List Nat)},D.deps (rs.map .str)≤g
 | []=>Nat.zero_le _
 | _ :: _=>Nat.max_le.mpr ⟨Nat.zero_le _,str_dep⟩
theorem str_sz : ∀ {rs : List (List Nat)},szs (rs.map .str)=rs.length
 | []=>rfl
 | _ :: r=>(congrArg (1 + ·) (str_sz (rs:=r))).trans (Nat.add_comm _ _)
theorem GS.me (h : GS Z k g first d) : d.dep≤g + 2∧sz d≤2 * Z + 9:=by
 cases h with
 | @mk nm rs ts h1 h2 h3 h4 h5=>
  refine ⟨dep_t (depA (al1 (Nat.zero_le _) (al1 (dep_t str_dep) (al1 (dep_t (deps_le fun x hx=>(h4 x hx).dep)) al0)))),?_⟩
  have a:=Nat.le_trans (szs_le fun x hx=>(h4 x hx).sz) (Nat.mul_le_mul_right Z h5)
  show 1 + ((szs (rs.map D.str) + 2) + ((szs ts + 2) + 0)) + 2≤_
  rw [str_sz]; omega
theorem GP.me (h : GP Z k g ds) : D.deps ds≤g + 2∧szs ds≤4 * Z + 18:=by
 cases h with
 | one h=>exact ⟨depA (al1 h.me.1 al0),Nat.le_trans h.me.2 (by omega)⟩
 | two h h'=>
  refine ⟨depA (al1 h.me.1 (al1 h'.me.1 al0)),?_⟩
  exact Nat.le_trans (Nat.add_le_add h.me.2 h'.me.2) (by omega)
theorem GT.path (v : Lv Z Z') (h : GP Z k g ds) : GT Z' (k + 15) (g + 4) (.tup [.str [112,97,116,104],.int 0,.tup ds]):=
 ⟨wt_path v h,lt_path v h,dep_t (depA (al1 (Nat.zero_le _) (al1 (Nat.zero_le _) (al1 (dep_t h.me.1) al0)))),by
  have a:=h.me.2; have b:=v.up
  show 1 + (1 + ((szs ds + 2) + 0)) + 2≤_
  omega⟩
theorem GT.ref (v : Lv Z Z') (hx : ∀ x,rx=some x→regSet.contains x=true) (h : GT Z k g t) : GT Z' (k + 15) (g + 4) (refD rx mu t):=
 ⟨wt_ref v hx h,lt_ref v hx h,dep_t (depA (al1 (Nat.zero_le _) (al1 (Nat.zero_le _) (al1 (by cases rx <;> exact Nat.zero_le _) (al1 (Nat.zero_le _) (al1 (Nat.le_trans h.dep (Nat.le_add_right _ _)) al0)))))),by
  have a:=h.sz; have b:=v.up
  have e : Mine.sz (refD rx mu t)=1 + (1 + (1 + (1 + (Mine.sz t + 0)))) + 2:=by cases rx <;> rfl
  omega⟩
theorem GT.tup (v : Lv Z Z') (h : ∀ t∈ts,GT Z k g t) (hl : ts.length≤4) : GT Z' (k + 15) (g + 4) (.tup [.str [116,117,112,108,101],.int 0,.tup ts]):=
 ⟨wt_tup v h hl,lt_tup v h hl,dep_t (depA (al1 (Nat.zero_le _) (al1 (Nat.zero_le _) (al1 (Nat.le_trans (dep_t (deps_le fun x hx=>(h x hx).dep)) (Nat.add_le_add_left (by decide) g)) al0)))),by
  have a:=Nat.le_trans (szs_le fun x hx=>(h x hx).sz) (Nat.mul_le_mul_right Z hl); have b:=v.up
  show 1 + (1 + ((szs ts + 2) + 0)) + 2≤_
  omega⟩
theorem GT.arr {a : Nat} (v : Lv Z Z') (hx : Num a x) (h : GT Z k g t) : GT Z' (k + 15) (g + 4) (.tup [.str [97,114,114,97,121],.int 0,t,.int (a : Int)]):=
 ⟨wt_arr v hx h,lt_arr v hx h,dep_t (depA (al1 (Nat.zero_le _) (al1 (Nat.zero_le _) (al1 (Nat.le_trans h.dep (Nat.le_add_right _ _)) (al1 (Nat.zero_le _) al0))))),by
  have a:=h.sz; have b:=v.up
  show 1 + (1 + (Mine.sz t + (1 + 0))) + 2≤_
  omega⟩
theorem GT.never (v : Lv Z Z') : GT Z' (k + 15) (g + 4) (.tup [.str [110,101,118,101,114],.int 0]):=⟨wt_never v,lt_never v,Nat.le_add_left _ _,Nat.le_trans (show 4≤8 * Z + 200 by omega) v.up⟩
theorem GT.infer (v : Lv Z Z') : GT Z' (k + 15) (g + 4) (.tup [.str [105,110,102,101,114],.int 0]):=⟨wt_infer v,lt_infer v,Nat.le_add_left _ _,Nat.le_trans (show 4≤8 * Z + 200 by omega) v.up⟩
end
end Mine
namespace Mine
noncomputable def DrawT (Z k g kk : Nat) (z : Int) : Prop:=∀ ⦃n⦄,kk≤n→∀ ⦃σ i E Q⦄,Srce σ i→(∀ t σ',GT Z k g t→Upd i σ σ'→Q (.d t) σ')→Cl n .lawType [.l i,.d (.int z)] σ E Q
noncomputable def jv (first : Bool) : Int:=if first then 0 else 1
noncomputable def pathB : List S:=[.asg 4 (.call .lawOne [(.v 0),(.lst false [(.c (.str [84])),(.c (.str [97])),(.c (.str [86,101,99,56]))])]),.if_ (.bop true [(.cmp .eq (.v 3) (.c (.int 0))),(.cmp .eq (.call .lawTake [(.v 0),(.c (.int 4))]) (.c (.int 0)))]) [.asg 4 (.call .lawOne [(.v 0),(.lst false [(.c (.str [83,101,108,102])),(.c (.str [99,114,97,116,101])),(.c (.str [115,117,112,101,114])),(.c (.str [115,101,108,102]))])])] [],.asgP [5,6] [(.tup []),(.tup [])],.if_ (.bop true [(.cmp .gt (.v 1) (.c (.int 0))),(.cmp .eq (.call .lawTake [(.v 0),(.c (.int 2))]) (.c (.int 0)))]) [.asg 5 (.call .lawOne [(.v 0),(.lst false [(.tup []),(.tup []),(.tup [(.c (.str [39,97]))]),(.tup [(.c (.str [39,97])),(.c (.str [39,115,116,97,116,105,99]))])])]),.asg 6 (.prim .tuple false [(.comp false (.call .lawType [(.v 0),(.bin .sub (.v 1) (.c (.int 1)))]) [7] (.prim .range false [(.call .lawTake [(.v 0),(.c (.int 3))])]))])] [],.app 2 (.tup [(.v 4),(.v 5),(.v 6)])]
section
variable {Z Z' k k' n m g c l i kk : Nat} {s gp x : List Nat} {xs ds ts acc : List D} {w : TL} {t d : D} {σ τ σ₀ : Store} {E : Ke} {Q : Kv} {N : Kn} {J : Mine.J} {first : Bool} {z : Int} {v1 v2 v3 v4 v5 v6 v7 : Option V}
theorem p_name (hm : 2≤m) (hs : Srce σ i) (q : ∀ nm σ',nmB first nm=true→Upd i σ σ'→N [some (.l i),v1,v2,some (.d (.int (jv first))),some (.d (.str nm)),v5,v6,v7] σ') :
  wSs Bx (Cl m) (pathB.take 2) N J [some (.l i),v1,v2,some (.d (.int (jv first))),v4,v5,v6,v7] σ:=by
 have X : ∀ nm σ1,plainNames.contains nm=true→Upd i σ σ1→wSs Bx (Cl m) ((pathB.drop 1).take 1) N J [some (.l i),v1,v2,some (.d (.int (jv first))),some (.d (.str nm)),v5,v6,v7] σ1:=fun nm σ1 hn u1=>by
  have hp : nmB first nm=true:=Bool.or_eq_true_iff.mpr (.inl hn)
  cases first with
  | false=>exact q nm σ1 hp u1
  | true=>
   exact w_take1 (top:=4) (Nat.le_of_succ_le hm) u1.src (by decide) (by decide) fun k σ2 _ u2=>b1_c
    (fun _=>w_one hm u2.src rfl fun σ3 u3=>have u:=(u1.trans u2).trans u3; al1 (q _ _ rfl u) (al1 (q _ _ rfl u) (al1 (q _ _ rfl u) (al1 (q _ _ rfl u) al0)))) fun _=>q nm σ2 hp (u1.trans u2)
 exact w_one hm hs rfl fun σ1 u1=>al1 (X _ _ rfl u1) (al1 (X _ _ rfl u1) (al1 (X _ _ rfl u1) al0))
theorem rng_ok {k : Nat} (h : k≤2) : (decide (0≤(k : Int)) && decide ((k : Int)≤1000000))=true:=Bool.and_eq_true_iff.mpr ⟨decide_eq_true (Int.natCast_nonneg k),decide_eq_true (Int.ofNat_le.mpr (Nat.le_trans h (by decide)))⟩
theorem rng_len : ∀ {k : Nat},(rngD k).length=k:=by intro k; unfold rngD; rw [List.length_map,List.length_range]
theorem drawn (hd : DrawT Z k g kk z) {f : Loc→Store→Ke→Kv→Prop} {Γ : Loc} {tsl : List Nat} {K : List D→Store→Prop} (hs : Srce σ i) {c : Nat} (hc : c≤2)
  (hf : ∀ x τ K',Cl m .lawType [.l i,.d (.int z)] τ No K'→Op (bindT Γ tsl x) fun Γ'=>f Γ' τ No K') (hm : kk≤m) (q : ∀ ts τ,(∀ t∈ts,GT Z k g t)→ts.length≤2→Upd i σ τ→K ts τ) : wComp f (fun _ σ _ K=>K true σ) Γ tsl (rngD c) [] σ K:=
 comp_w (α:=D × D) (key:=fun p=>p.1) (val:=fun p=>p.2) (P:=fun p=>GT Z k g p.2) (U:=fun τ=>Upd i σ τ) (rngD c) [] (.refl hs) (by rw [rng_len,List.length_nil,Nat.zero_add]; exact Nat.le_trans hc (by decide))
  (fun x _ τ K' hU q'=>hf x τ K' (hd hm hU.src fun t τ' ht u=>q' (x,t) τ' rfl ht (hU.trans u))) fun ps τ ek hP hU=>q _ τ (fun t ht=>by
   obtain ⟨p,hp,e⟩:=List.mem_map.mp ht
   exact e ▸ hP p hp) (by rw [List.nil_append,List.length_map,← List.length_map (f:=fun p : D × D=>p.1),ek,rng_len]; exact hc) hU
theorem p_args (hm : 2≤m) (hk : kk≤m) (hd : decide (0 < z)=true→DrawT Z k g kk (z - 1)) (hs : Srce σ i) (q : ∀ (rs : List (List Nat)) ts σ' y7,(∀ r∈rs,regSet.contains r=true)→rs.length≤2→(∀ t∈ts,GT Z k g t)→ts.length≤2→Upd i σ σ'→N [some (.l i),some (.d (.int z)),v2,v3,v4,some (.d (.tup (rs.map .str))),some (.d (.tup ts)),y7] σ') :
  wSs Bx (Cl m) ((pathB.drop 2).take 2) N J [some (.l i),some (.d (.int z)),v2,v3,v4,v5,v6,v7] σ:=
 b1_c (fun hz=>w_take1 (top:=2) (Nat.le_of_succ_le hm) hs (by decide) (by decide) fun k0 σ1 _ u1=>b1_c
   (fun _=>by
    have X : ∀ (rs : List (List Nat)) σ2,(∀ r∈rs,regSet.contains r=true)→rs.length≤2→Upd i σ σ2→wSs Bx (Cl m) [.asg 6 (.prim .tuple false [(.comp false (.call .lawType [(.v 0),(.bin .sub (.v 1) (.c (.int 1)))]) [7] (.prim .range false [(.call .lawTake [(.v 0),(.c (.int 3))])]))])] N J [some (.l i),some (.d (.int z)),v2,v3,v4,some (.d (.tup (rs.map .str))),some (.d (.tup [])),v7] σ2:=fun rs σ2 hr hl u2=>
     w_take1 (top:=3) (Nat.le_of_succ_le hm) u2.src (by decide) (by decide) fun k3 σ3 h3 u3=>bin_ok (rng_ok (Nat.le_of_lt_succ h3)) ⟨drawn (c:=k3) (hd hz) u3.src (Nat.le_of_lt_succ h3) (fun x τ K' h=>h) hk fun ts τ ht htl u4=>mk_ok (fit_small (Nat.le_trans htl (by decide))) (q rs ts τ _ hr hl ht htl ((u2.trans u3).trans u4))⟩
    exact w_one hm u1.src rfl fun σ2 u2=>have u:=u1.trans u2; al1 (X [] σ2 nofun (by decide) u) (al1 (X [] σ2 nofun (by decide) u) (al1 (X [[39,97]] σ2 (by decide +kernel) (by decide) u) (al1 (X [[39,97],[39,115,116,97,116,105,99]] σ2 (by decide +kernel) (by decide) u) al0))))
   fun _=>q [] [] σ1 _ nofun (Nat.zero_le _) nofun (Nat.zero_le _) u1)
  fun _=>q [] [] σ _ nofun (Nat.zero_le _) nofun (Nat.zero_le _) (.refl hs)
end
end Mine
namespace Mine
section
variable {Z Z' k k' n m g c l i kk : Nat} {s gp x : List Nat} {xs ds ts acc : List D} {w : TL} {t d : D} {σ τ σ₀ : Store} {E : Ke} {Q : Kv} {N : Kn} {J : Mine.J} {first : Bool} {z : Int} {v1 v2 v3 v4 v5 v6 v7 : Option V}
theorem p_seg (hm : 2≤m) (hk : kk≤m) (hd : decide (0 < z)=true→DrawT Z k g kk (z - 1)) (hi : i < σ₀.length) (pi : PI i σ₀ acc σ) (hf : acc.length≤2) (q : ∀ d σ' y4 y5 y6 y7,GS Z k g first d→PI i σ₀ (acc ++ [d]) σ'→N [some (.l i),some (.d (.int z)),some (.l σ₀.length),some (.d (.int (jv first))),y4,y5,y6,y7] σ') :
  wSs Bx (Cl m) pathB N J [some (.l i),some (.d (.int z)),some (.l σ₀.length),some (.d (.int (jv first))),v4,v5,v6,v7] σ:=
 p_name (first:=first) (N:=wSs Bx (Cl m) (pathB.drop 2) N J) hm pi.ex.src fun nm σ1 hn u1=>p_args (N:=wSs Bx (Cl m) (pathB.drop 4) N J) hm hk hd u1.src fun rs ts σ2 y7 hr hl ht htl u2=>
  have pi2:=pi.upd hi (u1.trans u2)
  ls pi2.li (ls pi2.li (bt (fit2 hf (Nat.le_succ 1)) (q _ _ _ _ _ _ (.mk hn hr hl ht htl) (pi2.push hi))))
theorem rng1 {k : Nat} (h : k < 2) : (decide (0≤(1 : Int) + (k : Int)) && decide ((1 : Int) + (k : Int)≤1000000))=true:=Bool.and_eq_true_iff.mpr ⟨decide_eq_true (by omega),decide_eq_true (by omega)⟩
theorem d_path (hk : kk + 1≤n) (hn : 3≤n) (hd : decide (0 < z)=true→DrawT Z k g kk (z - 1)) (hs : Srce σ i) (q : ∀ ds σ',GP Z k g ds→Upd i σ σ'→Q (.d (.tup ds)) σ') : Cl n .lawPath [.l i,.d (.int z)] σ E Q:=by
 cases n with
 | zero=>cases hn
 | succ m=>
  have hm:=sl hn
  have hk:=sl hk
  have hi:=hs.lt
  refine def_s rfl (w_take1 (top:=2) (Nat.le_of_succ_le hm) (PI.init hs).ex.src (by decide) (by decide) fun k0 σ1 h0 u1=>bin_ok (rng1 h0) ?_)
  have pi:=(PI.init hs).upd hi u1
  match k0,h0 with
  | 0,_=>exact ⟨p_seg (first:=true) hm hk hd hi pi (Nat.zero_le 2) fun d σ2 _ _ _ _ hd1 pi2=>with_l pi2.li (zc (q _ _ (.one hd1) (pi2.ex.cut hi)))⟩
  | 1,_=>exact ⟨p_seg (first:=true) hm hk hd hi pi (Nat.zero_le 2) fun d σ2 _ _ _ _ hd1 pi2=>p_seg (first:=false) hm hk hd hi pi2 (Nat.le_succ 1) fun d' σ3 _ _ _ _ hd2 pi3=>with_l pi3.li (zc (q _ _ (.two hd1 hd2) (pi3.ex.cut hi)))⟩
  | k + 2,h=>exact absurd h (Nat.not_lt_of_le (Nat.le_add_left 2 k))
theorem num0 : Num 0 [48]:=⟨by decide,by decide,fun q=>q⟩
theorem num3 : Num 3 [51]:=⟨by decide,by decide,fun q=>q⟩
theorem num8 : Num 8 [56]:=⟨by decide,by decide,fun q=>q⟩
theorem type0 (v : Lv Z Z') : DrawT Z' (k + 15) (g + 4) 4 0:=fun n hn σ i E Q hs q=>def_k hn rfl fun m hm=>
 have P : ∀ {σ1},Upd i σ σ1→Cl m .lawPath [.l i,.d (.int 0)] σ1 (fun τ=>E (τ.take σ.length)) fun x τ=>Vd x fun d=>Zd σ.length Q false (.d (.tup [.str [112,97,116,104],.int 0,d])) τ:=fun u1=>
  d_path (Z:=Z) (k:=k) (g:=g) (kk:=0) (Nat.le_trans (by decide) hm) hm nofun u1.src fun ds σ' hp u=>zd (u1.trans u).len (q _ _ (.path v hp) (u1.trans u))
 w_one (Nat.le_of_succ_le hm) hs rfl fun σ1 u1=>al1 (P u1) (al1 (P u1) (al1 (zd u1.len (q _ _ (.never v) u1)) (al1 (zd u1.len (q _ _ (.infer v) u1)) al0)))
theorem typeS (hz : decide (0 < z)=true) (v : Lv Z Z') (hd : DrawT Z k g kk (z - 1)) : DrawT Z' (k + 15) (g + 4) (kk + 4) z:=fun n hn σ i E Q hs q=>def_k hn rfl fun m hm=>
 have hk : kk≤m:=Nat.le_trans (Nat.le_add_right kk 3) hm
 have h3 : 3≤m:=tl hm
 have h2 : 2≤m:=Nat.le_of_succ_le h3
 have h1 : 1≤m:=Nat.le_of_succ_le h2
 br_t hz (w_take1 (top:=7) h1 hs (by decide) (by decide) fun c σ1 _ u1=>br_c
  (d_path (Nat.le_trans (Nat.add_le_add_left (by decide) kk) hm) h3 (fun _=>hd) u1.src fun ds σ' hp u=>zd (u1.trans u).len (q _ _ (.path v hp) (u1.trans u)))
  (br_c
   (w_one h2 u1.src rfl fun σ2 u2=>
    have R : ∀ rx : Option (List Nat),(∀ x,rx=some x→regSet.contains x=true)→Cl m .lawTake [.l i,.d (.int 2)] σ2 (fun τ=>E (τ.take σ.length)) fun y τ=>Op (cmpV τ .eq y (.d (.int 0))) fun r=>Cl m .lawType [.l i,.d (.int (z - 1))] τ (fun τ=>E (τ.take σ.length)) fun x τ=>Vd x fun t=>Zd σ.length Q false (.d (.tup [.str [114,101,102],.int 0,regD rx,.bool r,t])) τ:=fun rx hx=>
     w_take1 (top:=2) h1 u2.src (by decide) (by decide) fun c2 σ3 _ u3=>hd hk u3.src fun t σ4 ht u4=>have u:=((u1.trans u2).trans u3).trans u4; zd u.len (q _ _ (.ref v hx ht) u)
    al1 (R none nofun) (al1 (R none nofun) (al1 (R (some [39,97]) fun x e=>by cases e; rfl) al0)))
   (br_c
    (w_take1 (top:=3) h1 u1.src (by decide) (by decide) fun k3 σ2 hk3 u2=>bin_ok (rng_ok (Nat.le_of_lt_succ hk3)) ⟨drawn (c:=k3) hd u2.src (Nat.le_of_lt_succ hk3) (fun x τ K' h=>h) hk fun ts τ ht htl u3=>mk_ok (fit_small (Nat.le_trans htl (by decide))) (have u:=(u1.trans u2).trans u3; zd u.len (q _ _ (.tup v ht (Nat.le_trans htl (by decide))) u))⟩)
    (br_c
     (hd hk u1.src fun t σ2 ht u2=>w_one h2 u2.src rfl fun σ3 u3=>have u:=(u1.trans u2).trans u3; al1 (zd u.len (q _ _ (.arr v num0 ht) u)) (al1 (zd u.len (q _ _ (.arr v num3 ht) u)) (al1 (zd u.len (q _ _ (.arr v num8 ht) u)) al0)))
     (br_c (zd u1.len (q _ _ (.never v) u1)) (zd u1.len (q _ _ (.infer v) u1)))))))
end
end Mine
namespace Mine
inductive GB (Z k g : Nat) : D→Prop
 | mk {ds : List D} : GP Z k g ds→GB Z k g (.tup ds)
inductive GPm (Z k g : Nat) : D→Prop
 | mk {x : List Nat} {bs : List D} : genNames.contains x=true→(∀ b∈bs,GB Z k g b)→bs.length≤2→GPm Z k g (.tup [.str x,.tup bs])
structure BX (Z k : Nat) (i : It) : Prop where
 tx : Tx Z cU 8 107 i.1 i.2.1
 hd : hdC cS i.1=true
 rd : RdF .readSpath k (folP false) [] i.2.1 i.2.2
 it : isT i.2.2=true
structure MX (Z k : Nat) (i : It) : Prop where
 tx : Tx Z cU 16 230 i.1 i.2.1
 hd : hdC cS i.1=true
 it : Itm k .readParam folG genH i.2.1 i.2.2
section
variable {Z Z' k k' n m g c l i p : Nat} {s x : List Nat} {xs ds ts acc bs : List D} {its : List It} {w : TL} {t d : D} {σ τ σ₀ : Store} {E : Ke} {Q : Kv} {N : Kn} {J : Mine.J} {v0 v1 v2 v3 v4 v5 : Option V}
noncomputable def genB : List S:=[.asg 4 (.mth .join (.c (.str [32,43,32])) [(.comp false (.call .writePath [(.v 5)]) [5] (.v 3))]),.app 1 (.bin .add (.v 2) (.ite (.cmp .ne (.v 4) (.c (.str []))) (.bin .add (.c (.str [58,32])) (.v 4)) (.c (.str []))))]
theorem tx_plus : Tx Z cS 0 3 [32,43,32] (fun r=>.sg [43] :: r):=(Tx.blank (C:=cA) (x:=32) (.inl rfl)).app ((tx_open (s:=[43]) (B:=[61]) (k:=1) rfl rfl rfl).app (.blank (C:=cS) (.inl rfl)) rfl) rfl
theorem tx_colon : Tx Z cS 0 2 [58,32] (fun r=>.sg [58] :: r):=(tx_open (s:=[58]) (B:=[58]) (k:=1) rfl rfl rfl).app (.blank (C:=cS) (.inl rfl)) rfl
theorem itT_it {k : Nat} (h : ∀ i∈its,BX Z k i) : (dlist (itT its)).all isT=true:=by
 rw [itD_d]
 exact List.all_eq_true.mpr fun d hd=>by
  obtain ⟨i,hi,e⟩:=List.mem_map.mp hd
  exact e ▸ (h i hi).it
theorem mx_of (hx : genNames.contains x=true) (hI : ∀ i∈its,BX Z k i) (hl : its.length≤2) (ht : Tx Z cU 16 230 s (fun r=>.nm x :: bndT (plist (itT its)) r)) (hd : hdC cS s=true) : MX Z (k + 4) (s,((fun r=>.nm x :: bndT (plist (itT its)) r),.tup [.str x,.tup (itD its)])):=
 ⟨ht,hd,itD_d its ▸ rd_param hx (itT its) (fun p hp=>by
  obtain ⟨i,hi,e⟩:=List.mem_map.mp hp
  exact e ▸ (hI i hi).rd) (itT_it hI) (by rw [show (itT its).length=its.length from List.length_map _]; exact Nat.le_trans hl (by decide))⟩
theorem gen_set (h : genNames.contains x=true) : nameSet.contains x=true:=by
 have : ∀ x∈genNames,nameSet.contains x=true:=by decide +kernel
 exact this x (mem_c h)
theorem sumG {t : List Nat} (hZ : Z≤100000) (ha : s.length≤8 * Z + 107) (hb : t.length≤8 * Z + 107) : s.length + (t.length + 0) + 2 * 3≤LIM:=by unfold LIM; omega
theorem g_turn (hz : 10≤Z) (hZ : Z≤100000) (hk : k + 1≤m) (hm : 2≤m) (hx : genNames.contains x=true) (hb : ∀ b∈bs,GB Z k g b) (hl : bs.length≤2) (hp : σ[p]?=some (.lst acc)) (hf : acc.length≤10)
  (q : ∀ s w y4 y5,MX Z (k + 12) (s,(w,.tup [.str x,.tup bs]))→N [v0,some (.l p),some (.d (.str x)),some (.d (.tup bs)),y4,y5] (σ.set p (.lst (acc ++ [.str s])))) :
  wSs Bx (Cl m) genB N J [v0,some (.l p),some (.d (.str x)),some (.d (.tup bs)),v4,v5] σ:=by
 have fitA : ∀ {d : D},fitD (acc ++ [d])=true:=fit_small (by rw [List.length_append]; exact Nat.le_trans (Nat.succ_le_succ hf) (by decide))
 refine ⟨comp_w (α:=It) (key:=fun i=>i.2.2) (val:=fun i=>.str i.1) (P:=BX Z (k + 8)) (U:=fun τ=>τ=σ) bs [] rfl (Nat.le_trans (Nat.le_of_eq (Nat.zero_add _)) (Nat.le_trans hl (by decide))) (fun x hx τ K' hU q'=>?_) fun its τ ek hI hU=>?_⟩
 ·cases hb x hx with
  | mk hp=>exact w_path (e:=false) hz hZ hp hk hm fun s w px=>q' (s,(w,_)) τ rfl ⟨px.tx,px.hd,px.pp.rd,rfl⟩ hU
 subst hU; subst ek
 have hil : its.length≤2:=by rw [List.length_map] at hl; exact hl
 have hn:=tx_nm (Z:=Z) (gen_set hx)
 refine mk_ok (fit_small (Nat.le_trans (Nat.le_of_eq (List.length_map _)) (Nat.le_trans hil (by decide)))) ?_
 match its,hI,hil with
 | [],hI,hil=>
  have t : Tx Z cU 16 230 (x ++ []) (fun r=>.nm x :: bndT (plist (itT [])) r):=hn.1.nil.mono (fun _=>id) (by decide) (by decide)
  exact ls hp (ad (t.fit hZ (by decide) (by decide)) (ls hp (bt fitA (q _ _ _ _ (mx_of hx hI hil t (hdC.app hn.2))))))
 | [a],hI,hil=>
  have ha:=hI a (.head _)
  have t : Tx Z cU 16 230 (x ++ ([58,32] ++ a.1)) (fun r=>.nm x :: bndT (plist (itT [a])) r):=(hn.1.app (tx_colon.app ha.tx ha.hd) rfl).mono (fun _=>id) (by decide) (by decide)
  have f:=t.fit hZ (by decide) (by decide)
  exact join_w (ss:=[a.1]) rfl (Nat.le_trans (by show a.1.length + 0 + 1 * 3≤a.1.length + (a.1.length + 0) + 2 * 3; omega) (sumG hZ ha.tx.ln ha.tx.ln)) (ls hp (br_t (ne_e ha.hd) (ad (suf f) (ad f (ls hp (bt fitA (q _ _ _ _ (mx_of hx hI hil t (hdC.app hn.2)))))))))
 | [a,b],hI,hil=>
  have ha:=hI a (.head _)
  have hb:=hI b (.tail _ (.head _))
  have t : Tx Z cU 16 230 (x ++ ([58,32] ++ (a.1 ++ [32,43,32] ++ b.1))) (fun r=>.nm x :: bndT (plist (itT [a,b])) r):=(hn.1.app (tx_colon.app ((ha.tx.app tx_plus rfl).app hb.tx hb.hd) (hdC.app (hdC.app ha.hd))) rfl).mono (fun _=>id) (by decide) (by decide)
  have f:=t.fit hZ (by decide) (by decide)
  exact join_w (ss:=[a.1,b.1]) rfl (sumG hZ ha.tx.ln hb.tx.ln) (ls hp (br_t (ne_e (hdC.app (hdC.app ha.hd))) (ad (suf f) (ad f (ls hp (bt fitA (q _ _ _ _ (mx_of hx hI hil t (hdC.app hn.2)))))))))
 | _ :: _ :: _ :: _,_,h=>exact absurd h (Nat.not_le_of_lt (Nat.succ_lt_succ (Nat.succ_lt_succ (Nat.succ_pos _))))
inductive GG (Z k g : Nat) : D→Prop
 | mk {rs : List (List Nat)} {ps : List D} : (∀ r∈rs,regSet.contains r=true)→rs.length≤2→(∀ p∈ps,GPm Z k g p)→ps.length≤2→GG Z k g (.tup [.tup (rs.map .str),.tup ps])
theorem g_loop (hz : 10≤Z) (hZ : Z≤100000) (hk : k + 1≤m) (hm : 2≤m) {B : Kr} {rs : List (List Nat)} (hr : rs.length≤2) : ∀ (ps : List D) (done : List It) {σ v2 v3 v4 v5},(∀ p∈ps,GPm Z k g p)→(∀ i∈done,MX Z (k + 12) i)→done.length + ps.length≤2→σ[p]?=some (.lst (rs.map .str ++ done.map fun i=>.str i.1))→σ.take p=σ₀ →
  (∀ its σ' y2 y3 y4 y5,itD its=itD done ++ ps→(∀ i∈its,MX Z (k + 12) i)→its.length≤2→σ'[p]?=some (.lst (rs.map .str ++ its.map fun i=>.str i.1))→σ'.take p=σ₀→N [v0,some (.l p),y2,y3,y4,y5] σ') →
  wFor (wSs Bx (Cl m) genB) [2,3] N B ps [v0,some (.l p),v2,v3,v4,v5] σ
 | [],done,σ,v2,v3,v4,v5,_,hI,hl,hp,hs,q=>q done σ _ _ _ _ (List.append_nil _).symm hI hl hp hs
 | d :: ps,done,σ,v2,v3,v4,v5,h,hI,hl,hp,hs,q=>by
  have hd:=h d (.head _)
  cases hd with
  | @mk x bs hx hb hbl=>
   refine g_turn (N:=wFor (wSs Bx (Cl m) genB) [2,3] N B ps) hz hZ hk hm hx hb hbl hp (by rw [List.length_append,List.length_map,List.length_map]; exact Nat.le_trans (Nat.add_le_add hr (Nat.le_trans (Nat.le_add_right _ _) hl)) (by decide)) fun s w y4 y5 mx=>?_
   refine g_loop hz hZ hk hm hr ps (done ++ [(s,(w,_))]) (fun p hp=>h p (.tail _ hp)) (fun i hi=>(List.mem_append.mp hi).elim (hI i) fun hi=>List.mem_singleton.mp hi ▸ mx) (by rw [List.length_append,Nat.add_assoc,Nat.add_comm [_].length]; exact hl)
    (by rw [List.map_append,← List.append_assoc]; exact get_set hp) (take_set hs) fun its σ' y2 y3 y4 y5 e=>q its σ' y2 y3 y4 y5 (by rw [e]; unfold itD; rw [List.map_append,List.append_assoc]; rfl)
end
end Mine
namespace Mine
structure WX (f : Fn) (L k : Nat) (s : List Nat) (t : D) : Prop where
 el : ∀ {T : Prop},(∀ ts,Lex s ts→s.length≤L→Whole k f ts t→T)→T
section
variable {Z Z' k k' n m g c l i p : Nat} {s x : List Nat} {xs ds ts acc bs : List D} {its : List It} {w : TL} {t d : D} {σ τ σ₀ : Store} {E : Ke} {Q : Kv} {f : Fn} {C : Nat→Bool} {fol : Tk→Bool}
theorem Tx.lex (h : Tx Z C c l s w) : Lex s (w [.en]):=by
 have:=h.lx (r:=[]) rfl .nil
 rw [List.append_nil] at this; exact this
theorem WX.of (h : Tx Z C c l s w) (hl : c * Z + l≤Z') (rd : RdF f k fol [] w t) (hf : fol .en=true) : WX f Z' k s t:=⟨fun q=>q _ h.lex (Nat.le_trans h.ln hl) (rd.whole hf)⟩
theorem TX.whole (h : TX Z 1 0 k s w t) : WX .readType Z k s t:=.of h.tx (by rw [Nat.one_mul]; exact Nat.le_refl _) h.ty.rd rfl
theorem WX.back {L : Nat} (h : WX f L k s t) (hL : L < 1000000) (hs : sz t < WW) (hn : k + 6≤n) (q : Q (.d t) σ) : Cl n .lawBack [.fn f,.d (.str s)] σ E Q:=h.el fun ts hl hlen hw=>back_ok hw hl (Nat.lt_of_le_of_lt hlen hL) hs hn q
theorem w_generics (hz : 10≤Z) (hZ : Z≤100000) (lo : 10≤Z') (hi : Z'≤100000) (hZ' : 16 * Z + 230≤Z') (h : GG Z k g t) (hk : k + 2≤n) (hn : 3≤n) (q : ∀ s,WX .readGenerics (4 * Z' + 42) (k + 16) s t→Q (.d (.str s)) σ) : Cl n .writeGenerics [.d t] σ E Q:=by
 cases h with
 | @mk rs ps hr hrl hp hpl=>
  cases n with
  | zero=>cases hn
  | succ m=>
   have hlr : (rs.map D.str).length≤2:=by rw [List.length_map]; exact hrl
   refine def_s rfl (bin_ok (fit_small (Nat.le_trans hlr (by decide))) ⟨g_loop (σ₀:=σ) hz hZ (sl hk) (sl hn) hrl ps [] hp nofun (by rw [List.length_nil,Nat.zero_add]; exact hpl) ((List.append_nil _).symm ▸ get_top) List.take_left fun its σ' y2 y3 y4 y5 e hI hl hq hc=>?_⟩)
   have hI' : ∀ i∈its,POk Z' (i.1,i.2.1):=fun i hi=>⟨(hI i hi).tx.up hZ',(hI i hi).hd⟩
   refine w_angles (ps:=regP id rs ++ itP its) (Nat.le_trans (by decide) (sl hn)) (res_l (by rw [regP_s,List.map_id]; exact hq)) (args_row (reg_pok lo) hr hrl hI' hl) hi (fun e0=>zc ?_) fun s ne t _=>zc ?_
   ·obtain ⟨h1,h2⟩:=List.append_eq_nil_iff.mp e0
    cases rs with
    | cons=>cases h1
    | nil=>cases its with
     | cons=>cases h2
     | nil=>
      have e : ps=[]:=e.symm
      subst e
      rw [hc]
      exact q [] ⟨fun q=>q [.en] .nil (Nat.zero_le _) ((gen_ok0.mono (Nat.le_trans (by decide) (Nat.le_add_left 16 k))).whole (ts:=id) rfl)⟩
   ·rw [hc]
    rw [regP_w] at t
    have gk:=gen_ok (k:=k + 12) rs (itT its) (fun p hp=>by
     obtain ⟨i,hi,e⟩:=List.mem_map.mp hp
     exact e ▸ (hI i hi).it) false (by rw [show (itT its).length=its.length from List.length_map _]; exact Nat.le_trans (Nat.add_le_add hrl hl) (by decide))
    rw [itD_d,e] at gk
    exact q s (.of t (Nat.le_refl _) gk rfl)
end
end Mine
namespace Mine
section
variable {Z Z' k k' n m g c l i p kk : Nat} {s x : List Nat} {xs ds ts acc bs : List D} {w : TL} {t d : D} {σ τ σ₀ : Store} {E : Ke} {Q : Kv} {N : Kn} {J : Mine.J} {v1 v2 v3 : Option V}
noncomputable def parB : List S:=[.app 1 (.tup [(.v 2),(.prim .tuple false [(.comp false (.call .lawPath [(.v 0),(.c (.int 1))]) [3] (.prim .range false [(.call .lawTake [(.v 0),(.c (.int 3))])]))])])]
theorem drawnP {P : D→Prop} {f : Loc→Store→Ke→Kv→Prop} {Γ : Loc} {tsl : List Nat} {K : List D→Store→Prop} (hs : Srce σ i) {c : Nat} (hc : c≤2)
  (hf : ∀ x τ K',Srce τ i→(∀ t τ',P t→Upd i τ τ'→K' (.d t) τ')→Op (bindT Γ tsl x) fun Γ'=>f Γ' τ No K') (q : ∀ ts τ,(∀ t∈ts,P t)→ts.length≤2→Upd i σ τ→K ts τ) : wComp f (fun _ σ _ K=>K true σ) Γ tsl (rngD c) [] σ K:=
 comp_w (α:=D × D) (key:=fun p=>p.1) (val:=fun p=>p.2) (P:=fun p=>P p.2) (U:=fun τ=>Upd i σ τ) (rngD c) [] (.refl hs) (by rw [rng_len,List.length_nil,Nat.zero_add]; exact Nat.le_trans hc (by decide))
  (fun x _ τ K' hU q'=>hf x τ K' hU.src fun t τ' ht u=>q' (x,t) τ' rfl ht (hU.trans u)) fun ps τ ek hP hU=>q _ τ (fun t ht=>by
   obtain ⟨p,hp,e⟩:=List.mem_map.mp ht
   exact e ▸ hP p hp) (by rw [List.nil_append,List.length_map,← List.length_map (f:=fun p : D × D=>p.1),ek,rng_len]; exact hc) hU
theorem d_param (hd : DrawT Z k g kk 0) (hm : 3≤m) (hk : kk + 1≤m) (hi : i < σ₀.length) (hx : genNames.contains x=true) (pi : PI i σ₀ acc σ) (hf : acc.length≤2) (q : ∀ d σ',GPm Z k g d→PI i σ₀ (acc ++ [d]) σ'→N [some (.l i),some (.l σ₀.length),some (.d (.str x)),v3] σ') :
  wSs Bx (Cl m) parB N J [some (.l i),some (.l σ₀.length),some (.d (.str x)),v3] σ:=
 ls pi.li (w_take1 (top:=3) (Nat.le_trans (by decide) hm) pi.ex.src (by decide) (by decide) fun c σ1 hc u1=>bin_ok (rng_ok (Nat.le_of_lt_succ hc)) ⟨drawnP (P:=GB Z k g) (c:=c) u1.src (Nat.le_of_lt_succ hc)
  (fun x τ K' hs q'=>d_path (z:=1) hk hm (fun _=>hd) hs fun ds τ' hp u=>q' _ _ (.mk hp) u) fun ts τ ht htl u2=>mk_ok (fit_small (Nat.le_trans htl (by decide)))
   (have pi2:=pi.upd hi (u1.trans u2)
   ls pi2.li (bt (fit2 hf (Nat.le_succ 1)) (q _ _ (.mk hx ht htl) (pi2.push hi))))⟩)
theorem lt3 {k : Nat} (h : k < 3) : k=0∨k=1∨k=2:=by omega
theorem d_params (hd : DrawT Z k g kk 0) (hn : 4≤n) (hk : kk + 2≤n) (hs : Srce σ i) (q : ∀ t σ',GG Z k g t→Upd i σ σ'→Q (.d t) σ') : Cl n .lawParams [.l i] σ E Q:=by
 cases n with
 | zero=>cases hn
 | succ m=>
  have hm:=sl hn
  have hk:=sl hk
  have hi:=hs.lt
  have h2 : 2≤m:=Nat.le_trans (by decide) hm
  have fin : ∀ {ps τ v2 v3},(∀ p∈ps,GPm Z k g p)→ps.length≤2→PI i σ ps τ→wSs Bx (Cl m) ((F .lawParams).body.drop 2) (Nd σ.length Q) (Jd σ.length E Q) [some (.l i),some (.l σ.length),v2,v3] τ:=fun hp hl pi=>
   w_one h2 pi.ex.src rfl fun τ1 u1=>
    have pi1:=pi.upd hi u1
    al1 (with_l pi1.li (zc (q _ _ (.mk (rs:=[]) nofun (by decide) hp hl) (pi1.ex.cut hi)))) (al1 (with_l pi1.li (zc (q _ _ (.mk (rs:=[[39,97]]) (by decide +kernel) (by decide) hp hl) (pi1.ex.cut hi)))) (al1 (with_l pi1.li (zc (q _ _ (.mk (rs:=[[39,97],[39,98]]) (by decide +kernel) (by decide) hp hl) (pi1.ex.cut hi)))) al0))
  refine def_s rfl (w_take1 (top:=3) (Nat.le_of_succ_le h2) (PI.init hs).ex.src (by decide) (by decide) fun k0 σ1 h0 u1=>?_)
  have pi:=(PI.init hs).upd hi u1
  rcases lt3 h0 with rfl | rfl | rfl
  ·exact ⟨fin (ps:=[]) nofun (by decide) pi⟩
  ·exact ⟨d_param hd hm hk hi rfl pi (by decide) fun d σ2 h1 pi2=>fin (fun p hp=>List.mem_singleton.mp hp ▸ h1) (Nat.le_succ 1) pi2⟩
  ·exact ⟨d_param hd hm hk hi rfl pi (by decide) fun d σ2 h1 pi2=>d_param hd hm hk hi rfl pi2 (Nat.le_succ 1) fun d' σ3 h2 pi3=>fin (fun p hp=>(List.mem_cons.mp hp).elim (fun e=>e ▸ h1) fun hp=>List.mem_singleton.mp hp ▸ h2) (Nat.le_refl 2) pi3⟩
end
end Mine
namespace Mine
structure QX (Z c l k : Nat) (o : Bool) (s : List Nat) (w : TL) (p : D) : Prop where
 tx : Tx Z cU c l s w
 hd : hdC cS s=true
 pt : PTp k w p
 rh : o=true→Hds refH w
structure QQ (Z c l k : Nat) (s : List Nat) (w : TL) (p : D) : Prop where
 tx : Tx Z cU c l s w
 hd : hdC cS s=true
 pq : PQp k w p
structure NumQ (z : Int) (s : List Nat) (w : TL) : Prop where
 tx : ∀ Z,Tx Z cU 0 7 s w
 hd : hdC cS s=true
 el : ∀ {T : Prop},(∀ neg x v,w=numT neg x v→z=numI neg v→T)→T
 st : ∀ {mu : Bool} {σ : Store} {Q : Kv},Q (.d (.str s)) σ→Ok (primV .str mu σ [.d (.int z)]) Q
 lo : s.map lowC=s
section
variable {Z Z' c l k k' : Nat} {o : Bool} {s s' x g : List Nat} {w w' ts : TL} {p d : D} {its : List It} {z z' : Int}
theorem QX.up (h : QX Z c l k o s w p) (hz : c * Z + l≤Z') (hk : k≤k') : QX Z' 1 0 k' o s w p:=⟨h.tx.up hz,h.hd,h.pt.mono hk,h.rh⟩
theorem QX.up' (h : QX Z c l k o s w p) (hk : k≤k') : QX Z c l k' o s w p:=⟨h.tx,h.hd,h.pt.mono hk,h.rh⟩
theorem QX.q (h : QX Z c l k o s w p) : QQ Z c l (k + 3) s w p:=⟨h.tx,h.hd,.of h.pt⟩
theorem QQ.up (h : QQ Z c l k s w p) (hz : c * Z + l≤Z') (hk : k≤k') : QQ Z' 1 0 k' s w p:=⟨h.tx.up hz,h.hd,h.pq.mono hk⟩
theorem tx_minus {v : Nat} (hn : (x,v,false)∈NB) : Tx Z cU 0 7 ([45] ++ x) (fun r=>.sg [45] :: .nb x (v : Int) (suD false) :: r)∧hdC cS ([45] ++ x)=true:=by
 have hf : ∀ q∈NB,hdC fgL.contains q.1=true:=by decide +kernel
 have hc : ∀ c∈fgL,nxtB (.sg [45]) c=true:=by decide +kernel
 exact ⟨(Tx.tok (t:=.sg [45]) (C:=fgL.contains) (k:=1) (show [45]∈SG by decide) (fun c h=>hc c (List.contains_iff_mem.mp h)) (Nat.le_refl _)).app (tx_nb hn) (hf _ hn),rfl⟩
theorem NumQ.pos {v : Nat} (hn : (x,v,false)∈NB) (st : ∀ {mu : Bool} {σ : Store} {Q : Kv},Q (.d (.str x)) σ→Ok (primV .str mu σ [.d (.int (v : Int))]) Q) (lo : x.map lowC=x) : NumQ (v : Int) x (numT false x (v : Int)):=
 ⟨fun Z=>(tx_nb hn).mono (fun _=>id) (Nat.le_refl _) (by decide),nb_hd hn,fun k=>k false x v rfl rfl,st,lo⟩
theorem NumQ.neg {v : Nat} (hn : (x,v,false)∈NB) (st : ∀ {mu : Bool} {σ : Store} {Q : Kv},Q (.d (.str ([45] ++ x))) σ→Ok (primV .str mu σ [.d (.int (0 - (v : Int)))]) Q) (lo : ([45] ++ x).map lowC=[45] ++ x) : NumQ (0 - (v : Int)) ([45] ++ x) (numT true x (v : Int)):=
 ⟨fun Z=>(tx_minus hn).1,(tx_minus (Z:=0) hn).2,fun k=>k true x v rfl rfl,st,lo⟩
theorem nq0 : NumQ 0 [48] (numT false [48] 0):=.pos (v:=0) (by decide) (fun q=>q) rfl
theorem nq7 : NumQ 7 [55] (numT false [55] 7):=.pos (v:=7) (by decide) (fun q=>q) rfl
theorem nq3 : NumQ 3 [51] (numT false [51] 3):=.pos (v:=3) (by decide) (fun q=>q) rfl
theorem nq9 : NumQ 9 [57] (numT false [57] 9):=.pos (v:=9) (by decide) (fun q=>q) rfl
theorem nq_1 : NumQ (-1) [45,49] (numT true [49] 1):=.neg (v:=1) (x:=[49]) (by decide) (fun q=>q) rfl
theorem nq_2 : NumQ (-2) [45,50] (numT true [50] 2):=.neg (v:=2) (x:=[50]) (by decide) (fun q=>q) rfl
theorem nq_5 : NumQ (-5) [45,53] (numT true [53] 5):=.neg (v:=5) (x:=[53]) (by decide) (fun q=>q) rfl
theorem nq_128 : NumQ (-128) [45,49,50,56] (numT true [49,50,56] 128):=.neg (v:=128) (x:=[49,50,56]) (by decide) (fun q=>q) rfl
theorem QX.wild : QX Z 0 5 3 o [95] (fun r=>.nm [95] :: r) (.tup [.str [119,105,108,100],.int 0]):=⟨(tx_nm rfl).1,rfl,PTp.wild.1,fun _=>PTp.wild.2⟩
theorem QX.tt : QX Z 0 5 3 o [116,114,117,101] (fun r=>.nm [116,114,117,101] :: r) (.tup [.str [108,105,116],.int 0,.bool true]):=⟨(tx_nm rfl).1,rfl,PTp.tt.1,fun _=>PTp.tt.2⟩
theorem QX.ff : QX Z 0 5 3 o [102,97,108,115,101] (fun r=>.nm [102,97,108,115,101] :: r) (.tup [.str [108,105,116],.int 0,.bool false]):=⟨(tx_nm rfl).1,rfl,PTp.ff.1,fun _=>PTp.ff.2⟩
theorem QX.int (h : NumQ z s w) : QX Z 0 7 5 o s w (.tup [.str [108,105,116],.int 0,.int z]):=h.el fun neg x v e e2=>by
 have t:=h.tx Z; have hd:=h.hd
 subst e; subst e2
 exact ⟨t,hd,PTp.int.1,fun _=>PTp.int.2⟩
theorem tx_rng : Tx Z cA 0 3 [46,46,61] (fun r=>.sg [46,46,61] :: r):=tx_any rfl rfl
theorem tx_rngB : Tx Z cA 0 5 [32,46,46,61,32] (fun r=>.sg [46,46,61] :: r):=(Tx.blank (C:=cA) (x:=32) (.inl rfl)).app (tx_rng.app (.blank (C:=cA) (.inl rfl)) rfl) rfl
theorem QX.range (h : NumQ z s w) (h' : NumQ z' s' w') (hg : Tx Z cA 0 5 g (fun r=>.sg [46,46,61] :: r)) (hd : hdC cU g=true) : QX Z 0 19 5 o ((s ++ g) ++ s') (fun r=>w (.sg [46,46,61] :: w' r)) (.tup [.str [114,97,110,103,101],.int 0,.int z,.int z']):=h.el fun neg x v e e2=>h'.el fun neg' y u e' e2'=>by
 have t:=((h.tx Z).app hg hd).app (h'.tx Z) (hdC.mono h'.hd c_A)
 have hd:=h.hd
 subst e; subst e2; subst e'; subst e2'
 exact ⟨t,hdC.app (hdC.app hd),PTp.range.1,fun _=>PTp.range.2⟩
theorem QQ.par (h : QQ Z c l k s w p) : QX Z (0 + c + 0) (1 + l + 1) (k + 5) o (([40] ++ s) ++ [41]) (fun r=>.sg [40] :: w (.sg [41] :: r)) p:=
 ⟨((tx_any rfl rfl).app h.tx (hdC.mono h.hd c_A)).app (tx_close rfl rfl) rfl,rfl,(PTp.par h.pq).1,fun _=>(PTp.par h.pq).2⟩
end
end Mine
namespace Mine
section
variable {Z Z' c l k k' c' l' : Nat} {o r mu lead : Bool} {s s' x g : List Nat} {w w' ts : TL} {p d : D} {its : List It} {ds : List D} {z z' : Int}
theorem QX.tup {last : Bool} (hI : ∀ i∈its,PQp k i.2.1 i.2.2) (hl : its.length≤1000) (h1 : its.length=1→last=true) (hs : Tx Z cU c l s (fun r=>.sg [40] :: rwT (plist (itT its)) last (.sg [41] :: r))) (hd : hdC cS s=true) :
  QX Z c l (k + 5) o s (fun r=>.sg [40] :: rwT (plist (itT its)) last (.sg [41] :: r)) (.tup [.str [116,117,112,108,101],.int 0,.tup (itD its)]):=by
 have h:=PTp.tup (k:=k) (itT its) (fun p hp=>by
  obtain ⟨i,hi,e⟩:=List.mem_map.mp hp
  exact e ▸ hI i hi) last (by rw [show (itT its).length=its.length from List.length_map _]; exact hl) (by rw [show (itT its).length=its.length from List.length_map _]; exact h1)
 rw [itD_d] at h
 exact ⟨hs,hd,h.1,fun _=>h.2⟩
theorem tx_amp (Z : Nat) : Tx Z cS 0 1 [38] (fun r=>.sg [38] :: r):=tx_open (B:=[61]) rfl rfl rfl
theorem ptp_ref (h : PTp k w p) (hr : Hds refH w) : PTp (k + 4) (refPT mu w) (refPD mu p)∧Hds refH (refPT mu w):=⟨PTp.ref h hr,⟨_,_,fun _=>rfl,rfl⟩⟩
theorem QX.ref (h : QX Z c l k true s w p) : QX Z (0 + c) (1 + 6 + l) (k + 4) o (([38] ++ mutX mu) ++ s) (refPT mu w) (refPD mu p):=
 ⟨(tx_mut (tx_amp Z)).app h.tx h.hd,rfl,(ptp_ref h.pt (h.rh rfl)).1,fun _=>(ptp_ref h.pt (h.rh rfl)).2⟩
theorem QQ.refL (h : QQ Z c l k s w p) : QX Z (0 + (0 + c + 0)) (1 + 6 + (1 + l + 1)) (k + 9) o ((((([38] ++ mutX mu) ++ [40]) ++ s)) ++ [41]) (refPT mu fun r=>.sg [40] :: w (.sg [41] :: r)) (refPD mu p):=by
 have t:=QX.ref (mu:=mu) (o:=o) (QQ.par (o:=true) h)
 rw [← List.append_assoc,← List.append_assoc] at t
 exact t
noncomputable def refX (r : Bool) : List Nat:=if r then [114,101,102,32] else []
theorem tx_ref {C : Nat→Bool} (h : Tx Z cS c l s ts) : Tx Z cS c (l + 6) (s ++ refX r) (fun q=>ts (refB r (fun q=>q) q)):=by
 cases r with
 | false=>exact h.nil.mono (fun _=>id) (Nat.le_refl _) (Nat.le_add_right _ _)
 | true=>exact tx_kw (x:=[114,101,102]) h rfl
theorem bind_set (h : bindNames.contains x=true) : nameSet.contains x=true:=by
 have : ∀ x∈bindNames,nameSet.contains x=true:=by decide +kernel
 exact this x (mem_c h)
theorem tx_bind (hx : bindNames.contains x=true) : Tx Z cU 0 17 ((refX r ++ mutX mu) ++ x) (bindT' r mu x none)∧hdC cS ((refX r ++ mutX mu) ++ x)=true:=by
 have hn:=tx_nm (Z:=Z) (bind_set hx)
 have h:=(tx_mut (m:=mu) (tx_ref (C:=cS) (r:=r) (Tx.emp (Z:=Z) (C:=cS)))).app hn.1 hn.2
 refine ⟨?_,?_⟩
 ·cases r <;> cases mu <;> exact h
 ·cases r <;> cases mu <;> first | rfl | exact hn.2
end
end Mine
namespace Mine
section
variable {Z Z' c l k k' c' l' : Nat} {o r mu lead : Bool} {s s' x g : List Nat} {w w' ts : TL} {p d : D} {its : List It} {ds : List D} {z z' : Int}
theorem tx_at : Tx Z cA 0 3 [32,64,32] (fun r=>.sg [64] :: r):=(Tx.blank (C:=cA) (x:=32) (.inl rfl)).app ((tx_any (s:=[64]) (k:=1) rfl rfl).app (.blank (C:=cA) (.inl rfl)) rfl) rfl
theorem own_h {o : Option TL} (hx : bindNames.contains x=true) (h : (r || !mu)=true) : Hds refH (bindT' r mu x o):=PTp.nameH hx ((Bool.or_eq_true_iff.mp h).imp id nt)
theorem QX.name0 (hx : bindNames.contains x=true) : QX Z 0 17 5 (r || !mu) ((refX r ++ mutX mu) ++ x) (bindT' r mu x none) (bindD x r mu .none):=
 ⟨(tx_bind hx).1,(tx_bind (Z:=0) hx).2,PTp.name (k:=0) (o:=none) hx rfl,own_h hx⟩
theorem QX.nameI (hx : bindNames.contains x=true) (h : QX Z c l k o s w p) : QX Z (0 + (0 + c)) (17 + (3 + l)) (k + 5) (r || !mu) (((refX r ++ mutX mu) ++ x) ++ ([32,64,32] ++ s)) (bindT' r mu x (some w)) (bindD x r mu p):=
 ⟨(tx_bind hx).1.app (tx_at.app h.tx (hdC.mono h.hd c_A)) rfl,hdC.app (tx_bind (Z:=0) hx).2,PTp.name (o:=some w) hx h.pt,own_h hx⟩
theorem app5 (a r m x v : List Nat) : (((a ++ r) ++ m) ++ x) ++ v=a ++ (((r ++ m) ++ x) ++ v):=by rw [List.append_assoc a,List.append_assoc a,List.append_assoc a]
theorem QX.name0L (hx : bindNames.contains x=true) : QX Z (0 + 0 + 0) (1 + 17 + 1) 13 o ((((([40] ++ refX r) ++ mutX mu) ++ x) ++ []) ++ [41]) (fun q=>.sg [40] :: bindT' r mu x none (.sg [41] :: q)) (bindD x r mu .none):=by
 have t:=QQ.par (o:=o) (QX.name0 (Z:=Z) (r:=r) (mu:=mu) hx).q
 rw [app5 [40] (refX r) (mutX mu) x _,List.append_nil]
 exact t
theorem QX.nameIL (hx : bindNames.contains x=true) (h : QQ Z c l k s w p) : QX Z (0 + (0 + (0 + (0 + c + 0))) + 0) (1 + (17 + (3 + (1 + l + 1))) + 1) (k + 18) o ((((([40] ++ refX r) ++ mutX mu) ++ x) ++ (([32,64,32,40] ++ s) ++ [41])) ++ [41]) (fun q=>.sg [40] :: bindT' r mu x (some fun q=>.sg [40] :: w (.sg [41] :: q)) (.sg [41] :: q)) (bindD x r mu p):=by
 have t:=QQ.par (o:=o) (QX.nameI (r:=r) (mu:=mu) hx (QQ.par (o:=true) h)).q
 rw [app5 [40] (refX r) (mutX mu) x _]
 exact t
theorem bar_tx {s' : List Nat} {w' : TL} (h : Tx Z cU c l s w) (h' : Tx Z cU c' l' s' w') (hd : hdC cS s'=true) : Tx Z cU (c + c') (l + 3 + l') ((s ++ [32,124,32]) ++ s') (fun r=>w (.sg [124] :: w' r)):=
 (h.app (s':=[32,124,32]) ((Tx.blank (C:=cA) (x:=32) (.inl rfl)).app ((tx_open (s:=[124]) (B:=[124,61]) (k:=1) rfl rfl rfl).app (.blank (C:=cS) (.inl rfl)) rfl) rfl) rfl).app h' hd
end
end Mine
namespace Mine
section
variable {Z Z' c l k k' c' l' : Nat} {o r mu lead : Bool} {s s' x g : List Nat} {w w' ts : TL} {p d : D} {its : List It} {ds : List D} {z z' : Int}
theorem join_bar : ∀ (i : It) (its : List It),(∀ j∈i :: its,POk Z (j.1,j.2.1))→Tx Z cU (its.length + 1) (its.length * 3) (joinS [32,124,32] (itS (i :: its))) (fun r=>i.2.1 (sepT [124] (plist (itT its)) r))∧hdC cS (joinS [32,124,32] (itS (i :: its)))=true
 | i,[],h=>⟨(h i (.head _)).1.mono (fun _=>id) (Nat.le_refl _) (Nat.le_refl _),(h i (.head _)).2⟩
 | i,j :: its,h=>by
  have hi:=h i (.head _)
  have hj:=join_bar j its fun x hx=>h x (.tail _ hx)
  refine ⟨?_,hdC.app (hdC.app hi.2)⟩
  exact (bar_tx hi.1 hj.1 hj.2).mono (fun _=>id) (Nat.le_of_eq (Nat.add_comm _ _)) (by rw [List.length_cons,Nat.succ_mul,Nat.zero_add,Nat.add_comm]; exact Nat.le_refl _)
noncomputable def leadX (b : Bool) : List Nat:=if b then [124] else []
theorem or_pq (i j : It) (its : List It) (hI : ∀ q∈i :: j :: its,PTp k q.2.1 q.2.2) (hl : its.length < 900) : PQp (k + 3) (leadT lead fun r=>i.2.1 (sepT [124] (plist (itT (j :: its))) r)) (.tup [.str [111,114],.int 0,.tup (itD (i :: j :: its))]):=by
 have h:=PQp.bars (k:=k) lead (u:=i.2) (v:=j.2) (itT its) (hI i (.head _)) (fun q hq=>by
  obtain ⟨y,hy,e⟩:=List.mem_map.mp (show q∈itT (j :: its) from hq)
  exact e ▸ hI y (.tail _ hy)) (by rw [show (itT its).length=its.length from List.length_map _]; exact hl)
 rw [show i.2.2 :: dlist (j.2 :: itT its)=itD (i :: j :: its) from congrArg (fun q=>i.2.2 :: j.2.2 :: q) (itD_d its)] at h
 exact h
theorem QQ.or (i j : It) (its : List It) (hp : ∀ q∈i :: j :: its,POk Z (q.1,q.2.1)) (hI : ∀ q∈i :: j :: its,PTp k q.2.1 q.2.2) (hl : its.length≤2) : QQ Z 4 9 (k + 3) (joinS [32,124,32] (itS (i :: j :: its))) (leadT false fun r=>i.2.1 (sepT [124] (plist (itT (j :: its))) r)) (.tup [.str [111,114],.int 0,.tup (itD (i :: j :: its))]):=
 have h:=join_bar i (j :: its) hp
 ⟨h.1.mono (fun _=>id) (Nat.succ_le_succ (Nat.succ_le_succ hl)) (Nat.mul_le_mul_right 3 (Nat.succ_le_succ hl)),h.2,or_pq (lead:=false) i j its hI (Nat.lt_of_le_of_lt hl (by decide))⟩
theorem tx_par (Z : Nat) : Tx Z cA 0 1 [40] (fun r=>.sg [40] :: r):=tx_any rfl rfl
theorem QX.orL (i j : It) (its : List It) (hp : ∀ q∈i :: j :: its,POk Z (q.1,q.2.1)) (hI : ∀ q∈i :: j :: its,PTp k q.2.1 q.2.2) (hl : its.length≤2) : QX Z 4 12 (k + 8) o ((([40] ++ leadX lead) ++ joinS [32,124,32] (itS (i :: j :: its))) ++ [41]) (fun q=>.sg [40] :: (leadT lead fun r=>i.2.1 (sepT [124] (plist (itT (j :: its))) r)) (.sg [41] :: q)) (.tup [.str [111,114],.int 0,.tup (itD (i :: j :: its))]):=by
 have h:=join_bar i (j :: its) hp
 have pq:=or_pq (k:=k) (lead:=lead) i j its hI (Nat.lt_of_le_of_lt hl (by decide))
 have h1 : its.length + 1 + 1≤4:=Nat.succ_le_succ (Nat.succ_le_succ hl)
 have h2 : (its.length + 1) * 3≤9:=Nat.mul_le_mul_right 3 (Nat.succ_le_succ hl)
 refine ⟨?_,rfl,(PTp.par pq).1,fun _=>(PTp.par pq).2⟩
 cases lead with
 | false=>exact (((tx_par Z).nil.app h.1 (hdC.mono h.2 c_A)).app (tx_close (s:=[41]) (k:=1) rfl rfl) rfl).mono (fun _=>id) (by rw [Nat.zero_add]; exact h1) (by rw [Nat.add_comm 1]; exact Nat.succ_le_succ (Nat.succ_le_succ (Nat.le_succ_of_le h2)))
 | true=>exact ((((tx_par Z).app (tx_open (s:=[124]) (B:=[124,61]) (k:=1) rfl rfl rfl) rfl).app h.1 h.2).app (tx_close (s:=[41]) (k:=1) rfl rfl) rfl).mono (fun _=>id) (by rw [Nat.zero_add]; exact h1) (by rw [Nat.add_comm (1 + 1)]; exact Nat.succ_le_succ (Nat.succ_le_succ (Nat.succ_le_succ h2)))
end
end Mine
namespace Mine
structure FX (Z c l k : Nat) (s : List Nat) (w : TL) (p : D) : Prop where
 tx : Tx Z cU c l s w
 hd : hdC cS s=true
 it : FldP k w p
noncomputable def labels : List (List Nat):=[[120],[48],[121]]
section
variable {Z Z' c l k k' c' l' : Nat} {o r mu lead : Bool} {s s' x g cl : List Nat} {w w' ts : TL} {p d : D} {its : List It} {ds : List D} {z z' : Int}
theorem FX.up (h : FX Z c l k s w p) (hz : c * Z + l≤Z') (hk : k≤k') : FX Z' 1 0 k' s w p:=⟨h.tx.up hz,h.hd,h.it.mono hk⟩
theorem FX.name (hx : bindNames.contains x=true) (hc : Tx Z cS 0 2 cl (fun r=>.sg [58] :: r)) (hcd : hdC cU cl=true) (h : QQ Z c l k s w p) : FX Z (0 + 0 + c) (5 + 2 + l) (k + 4) ((x ++ cl) ++ s) (fun r=>.nm x :: .sg [58] :: w r) (.tup [.str x,p]):=
 have hn:=tx_nm (Z:=Z) (bind_set hx)
 ⟨(hn.1.app hc hcd).app h.tx h.hd,hdC.app (hdC.app hn.2),(FldP.name hx h.pq).mono (Nat.le_succ _)⟩
theorem FX.num (hc : Tx Z cS 0 2 cl (fun r=>.sg [58] :: r)) (hcd : hdC cU cl=true) (h : QQ Z c l k s w p) : FX Z (0 + 0 + c) (6 + 2 + l) (k + 4) (([48] ++ cl) ++ s) (fun r=>.nb [48] 0 .none :: .sg [58] :: w r) (.tup [.str [48],p]):=
 ⟨((tx_nb (x:=[48]) (v:=0) (b:=false) (by decide)).app hc hcd).app h.tx h.hd,rfl,FldP.num h.pq⟩
theorem lab_el {T : Prop} (h : labels.contains x=true) (h0 : x=[48]→T) (h1 : bindNames.contains x=true→T) : T:=by
 have : ∀ x∈labels,x=[48]∨bindNames.contains x=true:=by decide +kernel
 exact (this x (mem_c h)).elim h0 h1
theorem FX.of {T : Prop} (hx : labels.contains x=true) (hc : Tx Z cS 0 2 cl (fun r=>.sg [58] :: r)) (hcd : hdC cU cl=true) (h : QQ Z c l k s w p) (q : ∀ w',FX Z c (8 + l) (k + 4) ((x ++ cl) ++ s) w' (.tup [.str x,p])→T) : T:=
 lab_el hx (fun e=>by
  subst e
  have f:=FX.num hc hcd h
  exact q _ ⟨f.tx.mono (fun _=>id) (Nat.le_of_eq (Nat.zero_add _)) (Nat.le_refl _),f.hd,f.it⟩) fun hb=>by
  have f:=FX.name hb hc hcd h
  exact q _ ⟨f.tx.mono (fun _=>id) (Nat.le_of_eq (Nat.zero_add _)) (Nat.add_le_add_right (by decide) l),f.hd,f.it⟩
theorem FX.short (hx : bindNames.contains x=true) : FX Z 0 17 (k + 6) ((refX r ++ mutX mu) ++ x) (bindT' r mu x none) (.tup [.str x,bindD x r mu .none]):=⟨(tx_bind hx).1,(tx_bind (Z:=0) hx).2,FldP.short hx⟩
theorem col_w : Tx Z cS 0 2 [58,32] (fun r=>.sg [58] :: r):=tx_colon
theorem col_l : Tx Z cS 0 2 [58] (fun r=>.sg [58] :: r):=tx_open (B:=[58]) rfl rfl rfl
end
end Mine
namespace Mine
noncomputable def WrQ (Z k : Nat) (o : Bool) (p : D) : Prop:=∀ ⦃n⦄,k≤n→∀ ⦃σ E Q⦄,(∀ s w,QX Z 1 0 k o s w p→Q (.d (.str s)) σ)→Cl n .writePart [.d p] σ E Q
noncomputable def LwQ (Z k : Nat) (p : D) : Prop:=∀ ⦃n⦄,k≤n→∀ ⦃σ i E Q⦄,Srce σ i→(∀ s w σ',QX Z 1 0 k false s w p→Upd i σ σ'→Q (.d (.str s)) σ')→Cl n .lawSortText [.l i,.d p] σ E Q
structure GQ (Z k g : Nat) (p : D) : Prop where
 wp : WrQ Z k false p
 wq : ∀ ⦃n⦄,k≤n→∀ ⦃σ E Q⦄,(∀ s w,QQ Z 1 0 k s w p→Q (.d (.str s)) σ)→Cl n .writePattern [.d p] σ E Q
 wr : ∀ ⦃n⦄,k≤n→∀ ⦃mu σ E Q⦄,(∀ s w,QX Z 1 0 k true s w p→Q (.d (.str s)) σ)→Cl n .writeReferred [.d (refPD mu p)] σ E Q
 lw : LwQ Z k p
 lf : ∀ ⦃n⦄,k≤n→∀ ⦃x σ i E Q⦄,labels.contains x=true→Srce σ i→(∀ s w σ',FX Z 1 0 k s w (.tup [.str x,p])→Upd i σ σ'→Q (.d (.str s)) σ')→Cl n .lawFieldText [.l i,.d (.str x),.d p] σ E Q
 dep : p.dep≤g
 sz : sz p≤Z
section
variable {Z Z' c l k k' g : Nat} {o : Bool} {s kd : List Nat} {w : TL} {p : D} {rest : List D}
theorem QX.no (h : QX Z c l k true s w p) : QX Z c l k o s w p:=⟨h.tx,h.hd,h.pt,fun _=>h.rh rfl⟩
theorem GQ.base0 (h2 : (kd == [110,97,109,101])=false) (hz : Z + 8≤Z') (hZ : Z≤600000) (wp : WrQ Z k true (.tup (.str kd :: rest))) (lw : LwQ Z k (.tup (.str kd :: rest))) (wq : ∀ ⦃n⦄,k + 8≤n→∀ ⦃σ E Q⦄,(∀ s w,QQ Z' 1 0 (k + 8) s w (.tup (.str kd :: rest))→Q (.d (.str s)) σ)→Cl n .writePattern [.d (.tup (.str kd :: rest))] σ E Q) (hd : (D.tup (.str kd :: rest)).dep≤g) (hs : Mine.sz (.tup (.str kd :: rest))≤Z') : GQ Z' (k + 8) g (.tup (.str kd :: rest)):=
 have u : 1 * Z + 0≤Z':=by rw [Nat.one_mul]; exact Nat.le_trans (Nat.le_add_right _ _) hz
 {wp:=fun n hn σ E Q q=>wp (Nat.le_trans (Nat.le_add_right _ _) hn) fun s w x=>q s w (x.no.up u (Nat.le_add_right _ _))
  wq:=wq
  wr:=fun n hn mu σ E Q q=>def_k hn rfl fun m hm=>wp (Nat.le_trans (Nat.le_add_right _ _) hm) fun s w x=>idx_t (i:=0) rfl rfl (b1f h2 (br_f h2 (zd rfl (q s w (x.up u (Nat.le_add_right _ _))))))
  lw:=fun n hn σ i E Q hs q=>lw (Nat.le_trans (Nat.le_add_right _ _) hn) hs fun s w σ' x=>q s w σ' (x.up u (Nat.le_add_right _ _))
  lf:=fun n hn x σ i E Q hx hs q=>def_k hn rfl fun m hm=>idx_t (i:=0) rfl rfl (b1f h2 (lw (Nat.le_trans (Nat.le_add_right _ _) hm) hs fun s w σ' t u=>FX.of hx col_l rfl t.q fun w' f=>by
   have fit : fitS ((x ++ [58]) ++ s)=true:=decide_eq_true (Nat.le_trans f.tx.ln (by rw [Nat.one_mul]; unfold LIM; omega))
   exact b1f h2 (ad (pre fit) (ad fit (zd u.len (q _ _ _ (f.up (by rw [Nat.one_mul]; exact hz) (show k + 7≤k + 8 from Nat.le_succ _)) u))))))
  dep:=hd
  sz:=hs }
theorem GQ.base (h1 : (kd == [111,114])=false) (h2 : (kd == [110,97,109,101])=false) (hz : Z + 8≤Z') (hZ : Z≤600000) (wp : WrQ Z k true (.tup (.str kd :: rest))) (lw : LwQ Z k (.tup (.str kd :: rest))) (hd : (D.tup (.str kd :: rest)).dep≤g) (hs : Mine.sz (.tup (.str kd :: rest))≤Z') : GQ Z' (k + 8) g (.tup (.str kd :: rest)):=
 .base0 h2 hz hZ wp lw (fun n hn σ E Q q=>def_k hn rfl fun m hm=>idx_t (i:=0) rfl rfl (br_f h1 (wp (Nat.le_trans (Nat.le_add_right _ _) hm) fun s w x=>zd rfl (q s w (x.q.up (by rw [Nat.one_mul]; exact Nat.le_trans (Nat.le_add_right _ _) hz) (Nat.add_le_add_left (by decide) k)))))) hd hs
end
end Mine
namespace Mine
noncomputable def LpQ (Z k : Nat) (p : D) : Prop:=∀ ⦃n⦄,k≤n→∀ ⦃σ i E Q⦄,Srce σ i→(∀ s w σ',QX Z 1 0 k true s w p→Upd i σ σ'→Q (.d (.str s)) σ')→Cl n .lawPlainSort [.l i,.d p] σ E Q
section
variable {Z Z' c l k k' g : Nat} {o : Bool} {s s' kd : List Nat} {w w' : TL} {p : D} {rest : List D} {z z' : Int}
theorem LpQ.lw (h0 : (kd == [111,114])=false) (h1 : (kd == [114,101,102])=false) (h2 : (kd == [110,97,109,101])=false) (hz : Z + 2≤Z') (hZ : Z≤600000) (h : LpQ Z k (.tup (.str kd :: rest))) : LwQ Z' (k + 10) (.tup (.str kd :: rest)):=fun n hn σ i E Q hs q=>def_k hn rfl fun m hm=>
 idx_t (i:=0) rfl rfl (br_f h0 (br_f h1 (br_f h2 (h (Nat.le_trans (Nat.le_add_right _ _) hm) hs fun s w σ1 x u=>w_take1 (top:=5) (Nat.le_trans (by decide) (tl hm)) u.src (by decide) (by decide) fun _ σ2 _ u2=>br_c
  (by
   have t:=QQ.par (o:=false) x.q
   have f : fitS (([40] ++ s) ++ [41])=true:=decide_eq_true (Nat.le_trans t.tx.ln (by unfold LIM; omega))
   exact ad (pre f) (ad f (zd (u.trans u2).len (q _ _ _ (t.up (by omega) (show k + 8≤k + 10 from Nat.add_le_add_left (by decide) k)) (u.trans u2)))))
  (zd (u.trans u2).len (q _ _ _ (x.no.up (by omega) (Nat.le_add_right _ _)) (u.trans u2)))))))
theorem wp_wild (hz : 300≤Z) : WrQ Z 10 true (.tup [.str [119,105,108,100],.int 0]):=fun n hn σ E Q q=>def_k hn rfl fun m hm=>zd rfl (q _ _ ((QX.wild (Z:=0)).up (by omega) (by decide)))
theorem lp_wild (hz : 300≤Z) : LpQ Z 10 (.tup [.str [119,105,108,100],.int 0]):=fun n hn σ i E Q hs q=>def_k hn rfl fun m hm=>zd rfl (q _ _ _ ((QX.wild (Z:=0)).up (by omega) (by decide)) (.refl hs))
theorem wp_int (hz : 300≤Z) (h : NumQ z s w) : WrQ Z 10 true (.tup [.str [108,105,116],.int 0,.int z]):=fun n hn σ E Q q=>def_k hn rfl fun m hm=>def_k (k:=0) (Nat.le_trans (by decide) hm) rfl fun m' hm'=>h.st (zd rfl (zd rfl (q _ _ ((QX.int (Z:=0) h).up (by omega) (by decide)))))
theorem lp_int (hz : 300≤Z) (h : NumQ z s w) : LpQ Z 10 (.tup [.str [108,105,116],.int 0,.int z]):=fun n hn σ i E Q hs q=>def_k hn rfl fun m hm=>h.st (zd rfl (h.lo.symm ▸ q _ _ _ ((QX.int (Z:=0) h).up (by omega) (by decide)) (.refl hs)))
end
end Mine
namespace Mine
section
variable {Z Z' c l k k' g : Nat} {o : Bool} {s s' kd : List Nat} {w w' : TL} {p : D} {rest : List D} {z z' : Int}
theorem wp_tt (hz : 300≤Z) : WrQ Z 10 true (.tup [.str [108,105,116],.int 0,.bool true]):=fun n hn σ E Q q=>def_k hn rfl fun m hm=>def_k (k:=0) (Nat.le_trans (by decide) hm) rfl fun m' hm'=>zd rfl (zd rfl (q _ _ ((QX.tt (Z:=0)).up (by omega) (by decide))))
theorem wp_ff (hz : 300≤Z) : WrQ Z 10 true (.tup [.str [108,105,116],.int 0,.bool false]):=fun n hn σ E Q q=>def_k hn rfl fun m hm=>def_k (k:=0) (Nat.le_trans (by decide) hm) rfl fun m' hm'=>zd rfl (zd rfl (q _ _ ((QX.ff (Z:=0)).up (by omega) (by decide))))
theorem lp_tt (hz : 300≤Z) : LpQ Z 10 (.tup [.str [108,105,116],.int 0,.bool true]):=fun n hn σ i E Q hs q=>def_k hn rfl fun m hm=>zd rfl (q _ _ _ ((QX.tt (Z:=0)).up (by omega) (by decide)) (.refl hs))
theorem lp_ff (hz : 300≤Z) : LpQ Z 10 (.tup [.str [108,105,116],.int 0,.bool false]):=fun n hn σ i E Q hs q=>def_k hn rfl fun m hm=>zd rfl (q _ _ _ ((QX.ff (Z:=0)).up (by omega) (by decide)) (.refl hs))
theorem wp_range (hz : 300≤Z) (h : NumQ z s w) (h' : NumQ z' s' w') : WrQ Z 10 true (.tup [.str [114,97,110,103,101],.int 0,.int z,.int z']):=fun n hn σ E Q q=>def_k hn rfl fun m hm=>by
 have t:=QX.range (Z:=0) (o:=true) h h' (tx_rng.mono (fun _=>id) (Nat.le_refl _) (by decide)) rfl
 have f:=t.tx.fit (Nat.zero_le _) (by decide) (by decide)
 exact h.st (ad (pre f) (h'.st (ad f (zd rfl (q _ _ (t.up (by omega) (by decide)))))))
theorem lp_range (hz : 300≤Z) (h : NumQ z s w) (h' : NumQ z' s' w') : LpQ Z 10 (.tup [.str [114,97,110,103,101],.int 0,.int z,.int z']):=fun n hn σ i E Q hs q=>def_k hn rfl fun m hm=>by
 have t:=QX.range (Z:=0) (o:=true) h h' tx_rngB rfl
 have f:=t.tx.fit (Nat.zero_le _) (by decide) (by decide)
 exact h.st (ad (pre f) (h'.st (ad f (zd rfl (q _ _ _ (t.up (by omega) (by decide)) (.refl hs))))))
end
end Mine
namespace Mine
structure Lq (Z Z' : Nat) : Prop where
 lo : 400≤Z
 h9 : Z≤99000
 up : 5 * Z + 200≤Z'
noncomputable def IQ (Z k : Nat) (i : It) : Prop:=QQ Z 1 0 k i.1 i.2.1 i.2.2
section
variable {Z Z' c l k k' g : Nat} {o : Bool} {s s' kd : List Nat} {w w' : TL} {p : D} {ps : List D} {its : List It} {z z' : Int}
theorem Lq.hi (v : Lq Z Z') : Z≤100000:=Nat.le_trans v.h9 (by decide)
theorem Lq.hi8 (v : Lq Z Z') : Z + 8≤100000:=Nat.le_trans (Nat.add_le_add_right v.h9 8) (by decide)
theorem QQ.pk {i : It} (h : QQ Z 1 0 k i.1 i.2.1 i.2.2) : POk Z (i.1,i.2.1):=⟨h.tx,h.hd⟩
theorem iq_Row (hI : ∀ i∈its,IQ Z k i) (hl : its.length≤4) : Row Z (itP its):=⟨it_row fun i hi=>(hI i hi).pk,by rw [itP_len]; exact hl⟩
theorem Lq.u (v : Lq Z Z') (hc : c≤5) (hl : l≤200) : c * Z + l≤Z':=Nat.le_trans (Nat.add_le_add (Nat.mul_le_mul_right Z hc) hl) v.up
theorem wp_tup (v : Lq Z Z') (h : ∀ p∈ps,GQ Z k g p) (hl : ps.length≤4) : WrQ Z' (k + 20) true (.tup [.str [116,117,112,108,101],.int 0,.tup ps]):=fun n hn σ E Q q=>def_k hn rfl fun m hm=>
 ⟨comp_w (α:=It) (key:=fun i=>i.2.2) (val:=fun i=>.str i.1) (P:=IQ Z k) (U:=fun τ=>τ=σ) ps [] rfl (Nat.le_trans (Nat.le_of_eq (Nat.zero_add _)) (Nat.le_trans hl (by decide)))
  (fun x hx τ K' hU q'=>(h x hx).wq (Nat.le_trans (Nat.le_add_right k 19) hm) fun s w t=>q' (s,(w,x)) τ rfl t hU) fun its τ ek hI hU=>by
   subst hU; subst ek
   have hl' : its.length≤4:=by rw [List.length_map] at hl; exact hl
   refine mk_ok (fit_small (Nat.le_trans (Nat.le_of_eq (List.length_map _)) (Nat.le_trans hl' (by decide)))) ?_
   rw [List.nil_append,it_str]
   refine w_row (dl (tl hm) rfl) (iq_Row hI hl') v.hi fun s last h1 t hd=>zd rfl (q _ _ ((QX.tup (its:=its) (last:=last) (fun i hi=>(hI i hi).pq) (Nat.le_trans hl' (by decide)) (by rw [← itP_len]; exact h1) (itP_w its ▸ t) hd).up (v.u (by decide) (by decide)) (Nat.add_le_add_left (by decide) k)))⟩
theorem lp_tup (v : Lq Z Z') (h : ∀ p∈ps,GQ Z k g p) (hl : ps.length≤4) : LpQ Z' (k + 20) (.tup [.str [116,117,112,108,101],.int 0,.tup ps]):=fun n hn σ i E Q hs q=>def_k hn rfl fun m hm=>
 ⟨comp_w (α:=It) (key:=fun i=>i.2.2) (val:=fun i=>.str i.1) (P:=IQ Z (k + 3)) (U:=fun τ=>Upd i σ τ) ps [] (.refl hs) (Nat.le_trans (Nat.le_of_eq (Nat.zero_add _)) (Nat.le_trans hl (by decide)))
  (fun x hx τ K' hU q'=>(h x hx).lw (Nat.le_trans (Nat.le_add_right k 19) hm) hU.src fun s w τ' t u=>q' (s,(w,x)) τ' rfl t.q (hU.trans u)) fun its τ ek hI hU=>by
   subst ek
   have hl' : its.length≤4:=by rw [List.length_map] at hl; exact hl
   refine mk_ok (fit_small (Nat.le_trans (Nat.le_of_eq (List.length_map _)) (Nat.le_trans hl' (by decide)))) ?_
   rw [List.nil_append,it_str]
   refine l_row (Nat.le_trans (by decide) (tl hm)) hU.src (iq_Row hI hl') v.hi (tx_any (s:=[40]) (k:=1) rfl rfl) c_A rfl rfl rfl rfl fun s last τ' h1 t hd u=>?_
   exact zd (hU.trans u).len (q _ _ _ ((QX.tup (its:=its) (last:=last) (fun i hi=>(hI i hi).pq) (Nat.le_trans hl' (by decide)) (by rw [← itP_len]; exact h1 rfl) (itP_w its ▸ t) (hd cS rfl)).up (v.u (by decide) (by decide)) (show k + 8≤k + 20 from Nat.add_le_add_left (by decide) k)) (hU.trans u))⟩
end
end Mine
namespace Mine
section
variable {Z Z' c l k k' g : Nat} {o mu : Bool} {s s' kd : List Nat} {w w' : TL} {p : D} {ps : List D} {its : List It} {z z' : Int}
theorem wp_ref (v : Lq Z Z') (h : GQ Z k g p) : WrQ Z' (k + 10) true (refPD mu p):=fun n hn σ E Q q=>def_k hn rfl fun m hm=>by
 have f0 : fitS ([38] ++ mutX mu)=true:=(tx_mut (m:=mu) (tx_amp 0)).fit (Nat.zero_le _) (by decide) (by decide)
 exact br_m (ad f0 (h.wr (Nat.le_trans (Nat.le_add_right k 9) hm) fun s w x=>by
  have t:=QX.ref (mu:=mu) (o:=true) x
  exact ad (t.tx.fit v.hi (by decide) (by decide)) (zd rfl (q _ _ (t.up (v.u (by decide) (by decide)) (Nat.add_le_add_left (by decide) k))))))
theorem lw_ref (v : Lq Z Z') (h : GQ Z k g p) : LwQ Z' (k + 20) (refPD mu p):=fun n hn σ i E Q hs q=>def_k hn rfl fun m hm=>by
 have f0 : fitS (([38] ++ mutX mu) ++ [40])=true:=by cases mu <;> rfl
 exact br_m (ad (pre f0) (ad f0 (h.lw (Nat.le_trans (Nat.le_add_right k 19) hm) hs fun s w σ' x u=>by
  have t:=QQ.refL (mu:=mu) (o:=false) x.q
  have f:=t.tx.fit v.hi (by decide) (by decide)
  exact ad (pre f) (ad f (zd u.len (q _ _ _ (t.up (v.u (by decide) (by decide)) (show k + 12≤k + 20 from Nat.add_le_add_left (by decide) k)) u))))))
end
end Mine
namespace Mine
section
variable {Z Z' c l k k' g : Nat} {o mu : Bool} {s s' kd : List Nat} {w w' : TL} {p : D} {ps : List D} {its : List It} {z z' : Int}
noncomputable def IX (Z k : Nat) (i : It) : Prop:=QX Z 1 0 k false i.1 i.2.1 i.2.2
theorem it_ln (hI : ∀ i∈its,POk Z (i.1,i.2.1)) (hl : its.length≤4) (hZ : Z≤100000) {sep : List Nat} (hp : sep.length≤8) : ((itS its).map List.length).sum + (itS its).length * sep.length≤LIM:=by
 rw [← itP_s]; exact Row.fit (Z:=Z) ⟨it_row hI,by rw [itP_len]; exact hl⟩ hZ hp
theorem wq_or (v : Lq Z Z') (h : ∀ p∈ps,GQ Z k g p) (h2 : 2≤ps.length) (hl : ps.length≤4) : ∀ ⦃n⦄,k + 10≤n→∀ ⦃σ E Q⦄,(∀ s w,QQ Z 4 9 (k + 3) s w (.tup [.str [111,114],.int 0,.tup ps])→Q (.d (.str s)) σ)→Cl n .writePattern [.d (.tup [.str [111,114],.int 0,.tup ps])] σ E Q:=fun n hn σ E Q q=>def_k hn rfl fun m hm=>
 ⟨comp_w (α:=It) (key:=fun i=>i.2.2) (val:=fun i=>.str i.1) (P:=IX Z k) (U:=fun τ=>τ=σ) ps [] rfl (Nat.le_trans (Nat.le_of_eq (Nat.zero_add _)) (Nat.le_trans hl (by decide)))
  (fun x hx τ K' hU q'=>(h x hx).wp (Nat.le_trans (Nat.le_add_right k 9) hm) fun s w t=>q' (s,(w,x)) τ rfl t hU) fun its τ ek hI hU=>by
   subst hU; subst ek
   have hl' : its.length≤4:=by rw [List.length_map] at hl; exact hl
   refine mk_ok (fit_small (Nat.le_trans (Nat.le_of_eq (List.length_map _)) (Nat.le_trans hl' (by decide)))) ?_
   have hp : ∀ i∈its,POk Z (i.1,i.2.1):=fun i hi=>⟨(hI i hi).tx,(hI i hi).hd⟩
   refine join_w (ss:=itS its) (by rw [List.nil_append]; unfold itS; rw [List.map_map]; rfl) (it_ln hp hl' v.hi (by decide)) ?_
   match its,h2,hl',hI,hp with
   | i :: j :: its,_,hl',hI,hp=>exact zd rfl (q _ _ (QQ.or i j its hp (fun q hq=>(hI q hq).pt) (Nat.le_of_succ_le_succ (Nat.le_of_succ_le_succ hl'))))⟩
end
end Mine
namespace Mine
section
variable {Z Z' c l k k' g : Nat} {o mu : Bool} {s s' kd : List Nat} {w w' : TL} {p : D} {ps : List D} {its : List It} {z z' : Int}
theorem wp_or (v : Lq Z Z') (h : ∀ p∈ps,GQ Z k g p) (h2 : 2≤ps.length) (hl : ps.length≤4) : WrQ Z' (k + 20) true (.tup [.str [111,114],.int 0,.tup ps]):=fun n hn σ E Q q=>def_k hn rfl fun m hm=>
 wq_or v h h2 hl (Nat.le_trans (Nat.add_le_add_left (by decide) k) hm) fun s w x=>by
  have t:=QQ.par (o:=true) x
  have f:=t.tx.fit v.hi (by decide) (by decide)
  exact ad (pre f) (ad f (zd rfl (q _ _ (t.up (v.u (by decide) (by decide)) (show k + 8≤k + 20 from Nat.add_le_add_left (by decide) k)))))
theorem lw_or (v : Lq Z Z') (h : ∀ p∈ps,GQ Z k g p) (h2 : 2≤ps.length) (hl : ps.length≤4) : LwQ Z' (k + 20) (.tup [.str [111,114],.int 0,.tup ps]):=fun n hn σ i E Q hs q=>def_k hn rfl fun m hm=>by
 have X : ∀ lead σ1,Upd i σ σ1→wSs Bx (Cl m) [.ret false (.bin .add (.bin .add (.bin .add (.c (.str [40])) (.v 3)) (.mth .join (.c (.str [32,124,32])) [(.comp false (.call .lawSortText [(.v 0),(.v 6)]) [6] (.idx (.v 1) (.c (.int 2))))])) (.c (.str [41])))] (fun _ _=>True) (Jd σ.length E Q) [some (.l i),some (.d (.tup [.str [111,114],.int 0,.tup ps])),some (.d (.str [111,114])),some (.d (.str (leadX lead))),none,none,none] σ1:=fun lead σ1 u1=>by
  have f0 : fitS ([40] ++ leadX lead)=true:=by cases lead <;> rfl
  refine ad f0 ⟨comp_w (α:=It) (key:=fun i=>i.2.2) (val:=fun i=>.str i.1) (P:=IX Z k) (U:=fun τ=>Upd i σ τ) ps [] u1 (Nat.le_trans (Nat.le_of_eq (Nat.zero_add _)) (Nat.le_trans hl (by decide)))
   (fun x hx τ K' hU q'=>(h x hx).lw (Nat.le_trans (Nat.le_add_right k 19) hm) hU.src fun s w τ' t u=>q' (s,(w,x)) τ' rfl t (hU.trans u)) fun its τ ek hI hU=>?_⟩
  subst ek
  have hl' : its.length≤4:=by rw [List.length_map] at hl; exact hl
  refine mk_ok (fit_small (Nat.le_trans (Nat.le_of_eq (List.length_map _)) (Nat.le_trans hl' (by decide)))) ?_
  have hp : ∀ i∈its,POk Z (i.1,i.2.1):=fun i hi=>⟨(hI i hi).tx,(hI i hi).hd⟩
  refine join_w (ss:=itS its) (by rw [List.nil_append]; unfold itS; rw [List.map_map]; rfl) (it_ln hp hl' v.hi (by decide)) ?_
  match its,h2,hl',hI,hp with
  | a :: b :: its,_,hl',hI,hp=>
   have t:=QX.orL (o:=false) (lead:=lead) (k:=k) a b its hp (fun q hq=>(hI q hq).pt) (Nat.le_of_succ_le_succ (Nat.le_of_succ_le_succ hl'))
   have f:=t.tx.fit v.hi (by decide) (by decide)
   exact ad (pre f) (ad f (zd hU.len (q _ _ _ (t.up (v.u (by decide) (by decide)) (Nat.add_le_add_left (by decide) k)) hU)))
 exact w_one (Nat.le_trans (by decide) (tl hm)) hs rfl fun σ1 u1=>al1 (X false σ1 u1) (al1 (X true σ1 u1) al0)
end
end Mine
namespace Mine
section
variable {Z Z' c l k k' g : Nat} {o mu : Bool} {s s' kd : List Nat} {w w' : TL} {p : D} {ps rest : List D} {z z' : Int}
theorem WrQ.mono (h : WrQ Z k o p) (hz : Z≤Z') (hk : k≤k') : WrQ Z' k' o p:=fun n hn σ E Q q=>h (Nat.le_trans hk hn) fun s w x=>q s w (x.up (by omega) hk)
theorem LwQ.mono (h : LwQ Z k p) (hz : Z≤Z') (hk : k≤k') : LwQ Z' k' p:=fun n hn σ i E Q hs q=>h (Nat.le_trans hk hn) hs fun s w σ' x u=>q s w σ' (x.up (by omega) hk) u
theorem GQ.plain (v : Lq Z (5 * Z + 200)) (up : 5 * Z + 300≤Z') (h0 : (kd == [111,114])=false) (h1 : (kd == [114,101,102])=false) (h2 : (kd == [110,97,109,101])=false) (wp : WrQ (5 * Z + 200) (k + 20) true (.tup (.str kd :: rest))) (lp : LpQ (5 * Z + 200) (k + 20) (.tup (.str kd :: rest))) (hd : (D.tup (.str kd :: rest)).dep≤g) (hs : Mine.sz (.tup (.str kd :: rest))≤Z') : GQ Z' (k + 40) g (.tup (.str kd :: rest)):=
 have hi:=v.hi
 GQ.base (Z:=5 * Z + 202) (k:=k + 32) h0 h2 (by omega) (by omega) (wp.mono (by omega) (Nat.add_le_add_left (by decide) k)) ((lp.lw h0 h1 h2 (Z':=5 * Z + 202) (Nat.le_refl _) (by omega)).mono (Nat.le_refl _) (show k + 30≤k + 32 from Nat.add_le_add_left (by decide) k)) hd hs
end
end Mine
namespace Mine
section
variable {Z Z' c l k k' g : Nat} {o mu r : Bool} {s s' x : List Nat} {w w' : TL} {p d : D} {ps rest : List D} {z z' : Int}
theorem f_rm : fitS (refX r ++ mutX mu)=true:=by cases r <;> cases mu <;> rfl
theorem wp_name0 (hz : 300≤Z) (hx : bindNames.contains x=true) : WrQ Z 10 (r || !mu) (bindD x r mu .none):=fun n hn σ E Q q=>def_k hn rfl fun m hm=>by
 have t:=QX.name0 (Z:=0) (r:=r) (mu:=mu) hx
 have f:=t.tx.fit (Nat.zero_le _) (by decide) (by decide)
 exact br_m (br_m (ad f_rm (ad f (ad (by rw [List.append_nil]; exact f) (by rw [List.append_nil]; exact zd rfl (q _ _ (t.up (by omega) (by decide))))))))
theorem wp_nameI (v : Lq Z Z') (hx : bindNames.contains x=true) (h : GQ Z k g (.tup ps)) : WrQ Z' (k + 10) (r || !mu) (bindD x r mu (.tup ps)):=fun n hn σ E Q q=>def_k hn rfl fun m hm=>by
 have f0:=(QX.name0 (Z:=0) (r:=r) (mu:=mu) hx).tx.fit (Nat.zero_le _) (by decide) (by decide)
 exact br_m (br_m (ad f_rm (ad f0 (h.wp (Nat.le_trans (Nat.le_add_right k 9) hm) fun s w x'=>by
  have t:=QX.nameI (r:=r) (mu:=mu) hx x'
  have f:=t.tx.fit v.hi (by decide) (by decide)
  exact ad (suf f) (ad f (zd rfl (q _ _ (t.up (v.u (by decide) (by decide)) (Nat.add_le_add_left (by decide) k)))))))))
theorem lw_name0 (hz : 300≤Z) (hx : bindNames.contains x=true) : LwQ Z 20 (bindD x r mu .none):=fun n hn σ i E Q hs q=>def_k hn rfl fun m hm=>by
 have t:=QX.name0L (Z:=0) (o:=false) (r:=r) (mu:=mu) hx
 have f:=t.tx.fit (Nat.zero_le _) (by decide) (by decide)
 exact br_m (ad (pre (pre (pre (pre f)))) (br_m (ad (pre (pre (pre f))) (ad (pre (pre f)) (ad (pre f) (ad f (zd rfl (q _ _ _ (t.up (by omega) (by decide)) (.refl hs)))))))))
theorem lw_nameI (v : Lq Z Z') (hx : bindNames.contains x=true) (h : GQ Z k g (.tup ps)) : LwQ Z' (k + 30) (bindD x r mu (.tup ps)):=fun n hn σ i E Q hs q=>def_k hn rfl fun m hm=>
 h.lw (Nat.le_trans (Nat.le_add_right k 29) hm) hs fun s w σ' x' u=>by
  have t:=QX.nameIL (o:=false) (r:=r) (mu:=mu) hx x'.q
  have f:=t.tx.fit v.hi (by decide) (by decide)
  exact ad (pre (suf (pre f))) (ad (suf (pre f)) (br_m (ad (pre (pre (pre (pre f)))) (br_m (ad (pre (pre (pre f))) (ad (pre (pre f)) (ad (pre f) (ad f (zd u.len (q _ _ _ (t.up (v.u (by decide) (by decide)) (show k + 21≤k + 30 from Nat.add_le_add_left (by decide) k)) u))))))))))
end
end Mine
namespace Mine
noncomputable def inD : Option (List D)→D
 | none=>.none
 | some ps=>.tup ps
section
variable {Z Z' c l k k' g m i : Nat} {o mu r : Bool} {s s' x y : List Nat} {w w' : TL} {p d : D} {ps rest : List D} {z z' : Int} {od : Option (List D)} {σ : Store} {N : Kn} {J : Mine.J} {v0 v3 v4 : Option V} {E : Ke} {Q : Kv}
theorem lf_v3 (q : ∀ b,(b=true→y=x∧od=none)→N [v0,some (.d (.str y)),some (.d (bindD x r mu (inD od))),some (.d (.bool b)),v4] σ) : wSs Bx (Cl m) ((F .lawFieldText).body.take 1) N J [v0,some (.d (.str y)),some (.d (bindD x r mu (inD od))),v3,v4] σ:=
 b1_c (fun h=>by
  have e : x=y:=eq_of_beq h
  cases od with
  | none=>exact q true fun _=>⟨e.symm,rfl⟩
  | some ps=>exact q false nofun) fun h=>by
  rw [h]; exact q false nofun
theorem GQ.name (v : Lq Z (5 * Z + 200)) (up : 5 * Z + 300≤Z') (hx : bindNames.contains x=true) (wp : WrQ (5 * Z + 200) (k + 30) (r || !mu) (bindD x r mu (inD od))) (lw : LwQ (5 * Z + 200) (k + 30) (bindD x r mu (inD od))) (hd : (bindD x r mu (inD od)).dep≤g) (hs : Mine.sz (bindD x r mu (inD od))≤Z') : GQ Z' (k + 40) g (bindD x r mu (inD od)) where
 wp n hn σ E Q q:=wp (Nat.le_trans (Nat.add_le_add_left (by decide) k) hn) fun s w t=>q s w (QX.up ⟨t.tx,t.hd,t.pt,nofun⟩ (by omega) (Nat.add_le_add_left (by decide) k))
 wq n hn σ E Q q:=def_k hn rfl fun m hm=>wp (Nat.le_trans (Nat.add_le_add_left (by decide) k) hm) fun s w t=>zd rfl (q s w (t.q.up (by omega) (show k + 33≤k + 40 from Nat.add_le_add_left (by decide) k)))
 wr n hn mu' σ E Q q:=def_k hn rfl fun m hm=>wp (Nat.le_trans (Nat.add_le_add_left (by decide) k) hm) fun s w t=>by
  have own : r=false→mu=true→wSs Bx (Cl m) ((F .writeReferred).body.drop 2) (Nd σ.length Q) (Jd σ.length E Q) [some (.d (refPD mu' (bindD x r mu (inD od)))),some (.d (.str s)),some (.d (.bool true))] σ:=fun _ _=>by
   have t':=QQ.par (o:=true) t.q
   have hi:=v.hi
   have f : fitS (([40] ++ s) ++ [41])=true:=decide_eq_true (Nat.le_trans t'.tx.ln (by unfold LIM; omega))
   exact ad (pre f) (ad f (zd rfl (q _ _ (t'.up (by omega) (show k + 38≤k + 40 from Nat.add_le_add_left (by decide) k)))))
  have alone : (r || !mu)=true→Q (.d (.str s)) σ:=fun h=>q s w (QX.up ⟨t.tx,t.hd,t.pt,fun _=>t.rh h⟩ (by omega) (Nat.add_le_add_left (by decide) k))
  cases r with
  | true=>cases mu with
   | true=>exact zd rfl (alone rfl)
   | false=>exact zd rfl (alone rfl)
  | false=>cases mu with
   | true=>exact own rfl rfl
   | false=>exact zd rfl (alone rfl)
 lw n hn σ i E Q hs q:=lw (Nat.le_trans (Nat.add_le_add_left (by decide) k) hn) hs fun s w σ' t=>q s w σ' (t.up (by omega) (Nat.add_le_add_left (by decide) k))
 lf n hn y σ i E Q hy hs q:=def_k hn rfl fun m hm=>lf_v3 (N:=wSs Bx (Cl m) ((F .lawFieldText).body.drop 1) (Nd σ.length Q) (Jd σ.length E Q)) fun b hb=>lw (Nat.le_trans (Nat.add_le_add_left (by decide) k) hm) hs fun s w σ1 t u=>by
  have long : ∀ τ,Upd i σ τ→wSs Bx (Cl m) ((F .lawFieldText).body.drop 3) (Nd σ.length Q) (Jd σ.length E Q) [some (.l i),some (.d (.str y)),some (.d (bindD x r mu (inD od))),some (.d (.bool b)),some (.d (.str s))] τ:=fun τ u=>FX.of hy col_l rfl t.q fun w' f=>by
   have hi:=v.hi
   have fit : fitS ((y ++ [58]) ++ s)=true:=decide_eq_true (Nat.le_trans f.tx.ln (by unfold LIM; omega))
   exact ad (pre fit) (ad fit (zd u.len (q _ _ _ (f.up (by omega) (show k + 37≤k + 40 from Nat.add_le_add_left (by decide) k)) u)))
  cases b with
  | false=>exact long σ1 u
  | true=>
   obtain ⟨e,e2⟩:=hb rfl
   subst e; subst e2
   refine w_take1 (top:=2) (Nat.le_trans (by decide) (tl hm)) u.src (by decide) (by decide) fun _ σ2 _ u2=>b1_c (fun _=>?_) fun _=>long σ2 (u.trans u2)
   have f:=FX.short (Z:=0) (k:=0) (r:=r) (mu:=mu) hx
   have uu:=u.trans u2
   exact br_m (br_m (ad f_rm (ad (f.tx.fit (Nat.zero_le _) (by decide) (by decide)) (zd uu.len (q _ _ _ (f.up (by omega) (Nat.le_trans (by decide) (Nat.le_add_left 40 k))) uu)))))
 dep:=hd
 sz:=hs
end
end Mine
namespace Mine
structure Lr (Z Z' : Nat) : Prop where
 lo : 400≤Z
 hi : Z≤99000
 up : 5 * Z + 300≤Z'
section
variable {Z Z' c l k k' g m i : Nat} {o mu r : Bool} {s s' x y : List Nat} {w w' : TL} {p d : D} {ps rest : List D} {z z' : Int} {od : Option (List D)}
theorem Lr.q (v : Lr Z Z') : Lq Z (5 * Z + 200):=⟨v.lo,v.hi,Nat.le_refl _⟩
theorem Lr.sz (v : Lr Z Z') {a : Nat} (h : a≤5 * Z + 300) : a≤Z':=Nat.le_trans h v.up
theorem b300 (v : Lr Z Z') : 300≤5 * Z + 200:=Nat.le_trans (by decide) (Nat.add_le_add_right (Nat.mul_le_mul_left 5 v.lo) 200)
theorem WrQ.kk (h : WrQ Z 10 o p) : WrQ Z (k + 20) o p:=h.mono (Nat.le_refl _) (Nat.le_trans (by decide) (Nat.le_add_left 20 k))
theorem LpQ.kk (h : LpQ Z 10 p) : LpQ Z (k + 20) p:=fun n hn σ i E Q hs q=>h (Nat.le_trans (Nat.le_trans (by decide) (Nat.le_add_left 20 k)) hn) hs fun s w σ' x u=>q s w σ' (x.up (by rw [Nat.one_mul]; exact Nat.le_refl _) (Nat.le_trans (by decide) (Nat.le_add_left 20 k))) u
theorem GQ.flat (v : Lr Z Z') (h0 : (s == [111,114])=false) (h1 : (s == [114,101,102])=false) (h2 : (s == [110,97,109,101])=false) (wp : WrQ (5 * Z + 200) 10 true (.tup (.str s :: rest))) (lp : LpQ (5 * Z + 200) 10 (.tup (.str s :: rest))) (hd : D.deps rest=0) (hs : (szs rest).ble 10=true) : GQ Z' (k + 40) (g + 4) (.tup (.str s :: rest)):=
 .plain v.q v.up h0 h1 h2 wp.kk lp.kk (dep_t (Nat.max_le.mpr ⟨Nat.zero_le _,Nat.le_trans (Nat.le_of_eq hd) (Nat.zero_le _)⟩)) (v.sz (Nat.le_trans (show 1 + szs rest + 2≤13 by have:=Nat.le_of_ble_eq_true hs; omega) (Nat.le_trans (by decide) (Nat.le_add_left 300 _))))
theorem GQ.wild (v : Lr Z Z') : GQ Z' (k + 40) (g + 4) (.tup [.str [119,105,108,100],.int 0]):=.flat v rfl rfl rfl (wp_wild (b300 v)) (lp_wild (b300 v)) rfl rfl
theorem GQ.int (v : Lr Z Z') (h : NumQ z s w) : GQ Z' (k + 40) (g + 4) (.tup [.str [108,105,116],.int 0,.int z]):=.flat v rfl rfl rfl (wp_int (b300 v) h) (lp_int (b300 v) h) rfl rfl
theorem GQ.tt (v : Lr Z Z') : GQ Z' (k + 40) (g + 4) (.tup [.str [108,105,116],.int 0,.bool true]):=.flat v rfl rfl rfl (wp_tt (b300 v)) (lp_tt (b300 v)) rfl rfl
theorem GQ.ff (v : Lr Z Z') : GQ Z' (k + 40) (g + 4) (.tup [.str [108,105,116],.int 0,.bool false]):=.flat v rfl rfl rfl (wp_ff (b300 v)) (lp_ff (b300 v)) rfl rfl
theorem GQ.range (v : Lr Z Z') (h : NumQ z s w) (h' : NumQ z' s' w') : GQ Z' (k + 40) (g + 4) (.tup [.str [114,97,110,103,101],.int 0,.int z,.int z']):=.flat v rfl rfl rfl (wp_range (b300 v) h h') (lp_range (b300 v) h h') rfl rfl
theorem gq_dep (h : ∀ p∈ps,GQ Z k g p) : D.deps ps≤g:=deps_le fun p hp=>(h p hp).dep
theorem gq_sz (h : ∀ p∈ps,GQ Z k g p) (hl : ps.length≤4) : szs ps≤4 * Z:=Nat.le_trans (szs_le fun p hp=>(h p hp).sz) (Nat.mul_le_mul_right Z hl)
theorem row_dep {s : List Nat} (h : D.deps ps≤g) : (D.tup [.str s,.int 0,.tup ps]).dep≤g + 4:=dep_t (depA (al1 (Nat.zero_le _) (al1 (Nat.zero_le _) (al1 (Nat.le_trans (dep_t h) (Nat.add_le_add_left (by decide) g)) al0))))
theorem row_sz {s : List Nat} (v : Lr Z Z') (h : szs ps≤4 * Z) : sz (.tup [.str s,.int 0,.tup ps])≤Z':=v.sz (by
 show 1 + (1 + ((szs ps + 2) + 0)) + 2≤_
 omega)
theorem GQ.tup (v : Lr Z Z') (h : ∀ p∈ps,GQ Z k g p) (hl : ps.length≤4) : GQ Z' (k + 40) (g + 4) (.tup [.str [116,117,112,108,101],.int 0,.tup ps]):=.plain v.q v.up rfl rfl rfl (wp_tup v.q h hl) (lp_tup v.q h hl) (row_dep (gq_dep h)) (row_sz v (gq_sz h hl))
theorem up8 (v : Lr Z Z') : 5 * Z + 200 + 8≤Z':=v.sz (show 5 * Z + 208≤5 * Z + 300 from Nat.add_le_add_left (by decide) _)
theorem up6 (v : Lr Z Z') : 5 * Z + 200≤600000:=by have:=v.hi; omega
theorem GQ.or (v : Lr Z Z') (h : ∀ p∈ps,GQ Z k g p) (h2 : 2≤ps.length) (hl : ps.length≤4) : GQ Z' (k + 40) (g + 4) (.tup [.str [111,114],.int 0,.tup ps]):=
 .base0 (k:=k + 32) rfl (up8 v) (up6 v) ((wp_or v.q h h2 hl).mono (Nat.le_refl _) (Nat.add_le_add_left (by decide) k)) ((lw_or v.q h h2 hl).mono (Nat.le_refl _) (Nat.add_le_add_left (by decide) k))
  (fun n hn σ E Q q=>wq_or v.q h h2 hl (Nat.le_trans (show k + 10≤k + 40 from Nat.add_le_add_left (by decide) k) hn) fun s w t=>q s w (t.up (v.sz (by omega)) (show k + 3≤k + 40 from Nat.add_le_add_left (by decide) k))) (row_dep (gq_dep h)) (row_sz v (gq_sz h hl))
theorem GQ.ref (v : Lr Z Z') (h : GQ Z k g p) : GQ Z' (k + 40) (g + 4) (refPD mu p):=
 .base (k:=k + 32) rfl rfl (up8 v) (up6 v) ((wp_ref v.q h).mono (Nat.le_refl _) (Nat.add_le_add_left (by decide) k)) ((lw_ref v.q h).mono (Nat.le_refl _) (Nat.add_le_add_left (by decide) k))
  (dep_t (depA (al1 (Nat.zero_le _) (al1 (Nat.zero_le _) (al1 (Nat.zero_le _) (al1 (Nat.le_trans h.dep (Nat.le_add_right _ _)) al0)))))) (v.sz (by
   have:=h.sz
   show 1 + (1 + (1 + (Mine.sz p + 0))) + 2≤_
   omega))
theorem name_dep (h : (inD od).dep≤g) : (bindD x r mu (inD od)).dep≤g + 4:=dep_t (depA (al1 (Nat.zero_le _) (al1 (Nat.zero_le _) (al1 (Nat.zero_le _) (al1 (Nat.zero_le _) (al1 (Nat.zero_le _) (al1 (Nat.le_trans h (Nat.le_add_right _ _)) al0)))))))
theorem name_sz (v : Lr Z Z') (h : sz (inD od)≤Z) : sz (bindD x r mu (inD od))≤Z':=v.sz (by
 show 1 + (1 + (1 + (1 + (1 + (Mine.sz (inD od) + 0))))) + 2≤_
 omega)
theorem GQ.name0 (v : Lr Z Z') (hx : bindNames.contains x=true) : GQ Z' (k + 40) (g + 4) (bindD x r mu .none):=
 .name (od:=none) v.q v.up hx ((wp_name0 (b300 v) hx).mono (Nat.le_refl _) (Nat.le_trans (by decide) (Nat.le_add_left 30 k))) ((lw_name0 (b300 v) hx).mono (Nat.le_refl _) (Nat.le_trans (by decide) (Nat.le_add_left 30 k))) (name_dep (Nat.zero_le _)) (name_sz v (Nat.le_trans (by decide) v.lo))
theorem GQ.nameI (v : Lr Z Z') (hx : bindNames.contains x=true) (h : GQ Z k g (.tup ps)) : GQ Z' (k + 40) (g + 4) (bindD x r mu (.tup ps)):=
 .name (od:=some ps) v.q v.up hx ((wp_nameI v.q hx h).mono (Nat.le_refl _) (Nat.add_le_add_left (by decide) k)) (lw_nameI v.q hx h) (name_dep h.dep) (name_sz v h.sz)
end
end Mine
namespace Mine
structure PV (Z k : Nat) (s : List Nat) (w : TL) (ds : List D) : Prop where
 tx : Tx Z cU 1 0 s w
 hd : hdC cS s=true
 pp : PathP k true w ds
structure GV (Z k g : Nat) (ds : List D) : Prop where
 wr : ∀ ⦃n⦄,k≤n→∀ ⦃σ E Q⦄,(∀ s w,PV Z k s w ds→Q (.d (.str s)) σ)→Cl n .writePath [.d (.tup ds),.d (.str [58,58])] σ E Q
 lw : ∀ ⦃n⦄,k≤n→∀ ⦃σ i E Q⦄,Srce σ i→(∀ s w σ',PV Z k s w ds→Upd i σ σ'→Q (.d (.str s)) σ')→Cl n .lawPathText [.l i,.d (.tup ds),.d (.bool false)] σ E Q
 lg : ∀ ⦃n⦄,1≤n→∀ ⦃σ E Q⦄,(∀ b,(b=true→∀ x,ds=[.tup [.str x,.tup [],.tup []]]→headNames.contains x=true)→Q (.d (.bool b)) σ)→Cl n .isLong [.d (.tup ds)] σ E Q
 dep : D.deps ds≤g
 sz : szs ds≤Z
section
variable {Z Z' c l k k' g m i : Nat} {o mu r : Bool} {s s' x y : List Nat} {w w' : TL} {p d : D} {ps rest ds : List D} {its : List It} {last : Bool}
theorem isIn_mem : ∀ {l : List (List Nat)},D.isIn (.str x) (l.map .str)=true→x∈l
 | [],h=>nomatch h
 | y :: r,h=>(Bool.or_eq_true_iff.mp h).elim (fun h=>List.mem_cons.mpr (.inl (eq_of_beq h).symm)) fun h=>.tail _ (isIn_mem h)
theorem long_head (h : D.isIn (.str x) ([[83,101,108,102],[115,101,108,102],[115,117,112,101,114],[99,114,97,116,101]].map .str)=true) : headNames.contains x=true:=by
 have : ∀ x∈[[83,101,108,102],[115,101,108,102],[115,117,112,101,114],[99,114,97,116,101]],headNames.contains x=true:=by decide +kernel
 exact this x (isIn_mem h)
theorem PathP.mono {e : Bool} (h : PathP k e w ds) (hk : k≤k') : PathP k' e w ds:=⟨h.rd.mono (Nat.add_le_add_right hk 8),h.hd⟩
theorem PX.pv {Zt : Nat} (h : PX Zt c l k true s w ds) (hz : c * Zt + l≤Z) (hk : k≤k') : PV Z k' s w ds:=⟨h.tx.up hz,h.hd,h.pp.mono hk⟩
theorem GV.of {g' : Nat} (h : GP 280 k g ds) (hz : 2400≤Z) (hk : k + 6≤k') (hg : g + 2≤g') : GV Z k' g' ds where
 wr n hn σ E Q q:=w_path (e:=true) (by decide) (by decide) h (Nat.le_trans (Nat.le_trans (Nat.add_le_add_left (by decide) k) hk) hn) (Nat.le_trans (Nat.le_trans (Nat.le_trans (by decide) (Nat.le_add_left 6 k)) hk) hn) fun s w px=>q s w (px.pv (Nat.le_trans (by decide) hz) (tr hk))
 lw n hn σ i E Q hs q:=l_path (e:=true) (by decide) (by decide) h hs (Nat.le_trans (Nat.le_trans (Nat.add_le_add_left (by decide) k) hk) hn) (Nat.le_trans (Nat.le_trans (Nat.le_trans (by decide) (Nat.le_add_left 6 k)) hk) hn) fun s w σ' px u=>q s w σ' (px.pv (Nat.le_trans (by decide) hz) (tr hk)) u
 lg n hn σ E Q q:=def_k hn rfl fun m hm=>by
  cases h with
  | one h=>cases h with
   | mk h1 h2 h3 h4 h5=>exact zd rfl (q _ fun e x hx=>(D.str.inj (List.cons.inj (D.tup.inj (List.cons.inj hx).1)).1) ▸ long_head e)
  | two h h'=>exact zd rfl (q true fun _ x hx=>nomatch hx)
 dep:=Nat.le_trans h.me.1 hg
 sz:=Nat.le_trans h.me.2 (Nat.le_trans (by decide) hz)
theorem QX.places (hp : PV Z k s w ds) (hI : ∀ i∈its,PQp k i.2.1 i.2.2) (hl : its.length≤1000) (t : Tx Z cU c l s' (fun r=>w (.sg [40] :: rwT (plist (itT its)) last (.sg [41] :: r)))) (hd : hdC cS s'=true) :
  QX Z c l (k + 10) o s' (fun r=>w (.sg [40] :: rwT (plist (itT its)) last (.sg [41] :: r))) (.tup [.str [118,97,114,105,97,110,116],.int 0,.tup ds,.tup (itD its)]):=by
 have h:=VarP.places (k:=k) (itT its) last hp.pp (fun p hp=>by
  obtain ⟨i,hi,e⟩:=List.mem_map.mp hp
  exact e ▸ hI i hi) (by rw [show (itT its).length=its.length from List.length_map _]; exact hl)
 rw [itD_d] at h
 exact ⟨t,hd,h.1,fun _=>h.2⟩
theorem QX.bare (hp : PV Z k s w ds) (hb : ∀ x,ds=[.tup [.str x,.tup [],.tup []]]→headNames.contains x=true) : QX Z 1 0 (k + 10) o s w (.tup [.str [118,97,114,105,97,110,116],.int 0,.tup ds,.tup []]):=⟨hp.tx,hp.hd,(VarP.bare hp.pp hb).1,fun _=>(VarP.bare hp.pp hb).2⟩
end
end Mine
namespace Mine
section
variable {Z Z' c l k k' g m i : Nat} {o mu r : Bool} {s s' x y sep : List Nat} {w w' : TL} {p d : D} {ps rest ds : List D} {its : List It} {last : Bool}
theorem tx_behind (hp : Tx Z cU 1 0 s w) {b : List Nat} {C : Nat→Bool} {wb : TL} (hb : Tx Z C 0 3 b wb) (hbd : hdC cU b=true) (hC : ∀ c,cS c=true→C c=true) (ht : Row Z (itP its)) :
  Tx Z cE 5 36 (((s ++ b) ++ joinS [44,32] (itS its))) (fun r=>w (wb (rwT (plist (itT its)) false r))):=by
 have t:=(row_tx (hp.app hb hbd) hC sep_sp (last:=false) (itP its) ht.ok fun _=>rfl).mono (fun _=>id) (Nat.add_le_add_left ht.len 1) (show 0 + 3 + (itP its).length * 8 + 1≤36 from Nat.add_le_add_right (Nat.add_le_add_left (Nat.mul_le_mul_right 8 ht.len) 3) 1)
 rw [itP_s,itP_w,show comX false=[] from rfl,List.append_nil] at t
 exact t
theorem wp_var (v : Lq Z Z') (hp : GV Z k g ds) (h : ∀ p∈ps,GQ Z k g p) (hl : ps.length≤4) : WrQ Z' (k + 20) true (.tup [.str [118,97,114,105,97,110,116],.int 0,.tup ds,.tup ps]):=fun n hn σ E Q q=>def_k hn rfl fun m hm=>def_k (k:=k + 18) (show k + 18 + 1≤m from hm) rfl fun m hm=>
 hp.wr (Nat.le_trans (Nat.le_add_right k 18) hm) fun s w px=>
 ⟨comp_w (α:=It) (key:=fun i=>i.2.2) (val:=fun i=>.str i.1) (P:=IQ Z k) (U:=fun τ=>τ=σ) ps [] rfl (Nat.le_trans (Nat.le_of_eq (Nat.zero_add _)) (Nat.le_trans hl (by decide)))
  (fun x hx τ K' hU q'=>(h x hx).wq (Nat.le_trans (Nat.le_add_right k 18) hm) fun s w t=>q' (s,(w,x)) τ rfl t hU) fun its τ ek hI hU=>by
   subst hU; subst ek
   have hl' : its.length≤4:=by rw [List.length_map] at hl; exact hl
   refine mk_ok (fit_small (Nat.le_trans (Nat.le_of_eq (List.length_map _)) (Nat.le_trans hl' (by decide)))) ?_
   rw [List.nil_append,it_str]
   have row:=iq_Row hI hl'
   have fin : wSs Bx (Cl m) ((F .writeVariant).body.drop 2) (Nd τ.length fun v' σ'=>Zd τ.length Q false v' σ') (Jd τ.length (fun σ'=>E (σ'.take τ.length)) fun v' σ'=>Zd τ.length Q false v' σ') [some (.d (.tup [.str [118,97,114,105,97,110,116],.int 0,.tup ds,.tup (its.map fun i=>i.2.2)])),some (.d (.str s)),some (.d (.lst ((tx1 (itP its)).map .str))),none] τ:=by
    have t:=row_end (e:=[41]) (tx_behind px.tx (tx_any (s:=[40]) (k:=3) rfl rfl) rfl c_A row) rfl rfl rfl
    have f:=t.fit v.hi (by decide) (by decide)
    exact ad (pre (pre f)) (join_w rfl (row.fit v.hi (by decide)) (itP_s its ▸ ad (pre f) (ad f (zd rfl (zd rfl (q _ _ ((QX.places px (fun i hi=>(hI i hi).pq) (Nat.le_trans hl' (by decide)) t (hdC.app (hdC.app (hdC.app px.hd)))).up (v.u (by decide) (by decide)) (Nat.add_le_add_left (by decide) k))))))))
   cases its with
   | cons a b=>exact cmp_nil rfl fin
   | nil=>
    refine hp.lg (Nat.le_trans (by decide) (tl hm)) fun b hb=>?_
    cases b with
    | false=>exact fin
    | true=>exact zd rfl (zd rfl (q _ _ ((QX.bare px (hb rfl)).up (v.u (by decide) (by decide)) (Nat.add_le_add_left (by decide) k))))⟩
theorem lp_var (v : Lq Z Z') (hp : GV Z k g ds) (h : ∀ p∈ps,GQ Z k g p) (hl : ps.length≤4) : LpQ Z' (k + 20) (.tup [.str [118,97,114,105,97,110,116],.int 0,.tup ds,.tup ps]):=fun n hn σ i E Q hs q=>def_k hn rfl fun m hm=>
 hp.lw (Nat.le_trans (Nat.le_add_right k 19) hm) hs fun s w σ1 px u1=>
 ⟨comp_w (α:=It) (key:=fun i=>i.2.2) (val:=fun i=>.str i.1) (P:=IQ Z (k + 3)) (U:=fun τ=>Upd i σ τ) ps [] u1 (Nat.le_trans (Nat.le_of_eq (Nat.zero_add _)) (Nat.le_trans hl (by decide)))
  (fun x hx τ K' hU q'=>(h x hx).lw (Nat.le_trans (Nat.le_add_right k 19) hm) hU.src fun s w τ' t u=>q' (s,(w,x)) τ' rfl t.q (hU.trans u)) fun its τ ek hI hU=>by
   subst ek
   have hl' : its.length≤4:=by rw [List.length_map] at hl; exact hl
   refine mk_ok (fit_small (Nat.le_trans (Nat.le_of_eq (List.length_map _)) (Nat.le_trans hl' (by decide)))) ?_
   rw [List.nil_append,it_str]
   refine l_row (Nat.le_trans (by decide) (tl hm)) hU.src (iq_Row hI hl') v.hi (tx_any (s:=[40]) (k:=1) rfl rfl) c_A rfl rfl rfl rfl fun s' last τ' _ t hd u=>?_
   rw [itP_w] at t
   have t':=px.tx.app t (hd cU rfl)
   have uu:=hU.trans u
   exact ad (t'.fit v.hi (by decide) (by decide)) (zd uu.len (q _ _ _ ((QX.places (k:=k + 3) ⟨px.tx,px.hd,px.pp.mono (Nat.le_add_right _ _)⟩ (fun i hi=>(hI i hi).pq) (Nat.le_trans hl' (by decide)) t' (hdC.app px.hd)).up (v.u (by decide) (by decide)) (show k + 13≤k + 20 from Nat.add_le_add_left (by decide) k)) uu))⟩
end
end Mine
namespace Mine
inductive GF (Z k g : Nat) : D→Prop
 | mk {x : List Nat} {p : D} : labels.contains x=true→GQ Z k g p→GF Z k g (.tup [.str x,p])
noncomputable def IF (Z k : Nat) (i : It) : Prop:=FX Z 1 0 k i.1 i.2.1 i.2.2
section
variable {Z Z' c l k k' g m i : Nat} {o mu r rest : Bool} {s s' x y sep : List Nat} {w w' : TL} {p d : D} {ps ds : List D} {its : List It} {last : Bool}
theorem IF.pk {i : It} (h : IF Z k i) : POk Z (i.1,i.2.1):=⟨h.tx,h.hd⟩
theorem QX.fields (hp : PV Z k s w ds) (hI : ∀ i∈its,FldP k i.2.1 i.2.2) (hl : its.length≤1000) (t : Tx Z cU c l s' (fun r=>w (.sg [123] :: fldT (plist (itT its)) rest last (.sg [125] :: r)))) (hd : hdC cS s'=true) :
  QX Z c l (k + 10) o s' (fun r=>w (.sg [123] :: fldT (plist (itT its)) rest last (.sg [125] :: r))) (.tup [.str [102,105,101,108,100,115],.int 0,.tup ds,.tup (itD its),.bool rest]):=by
 have h:=VarP.fields (k:=k) (itT its) rest last hp.pp (fun p hp=>by
  obtain ⟨i,hi,e⟩:=List.mem_map.mp hp
  exact e ▸ hI i hi) (by rw [show (itT its).length=its.length from List.length_map _]; exact hl)
 rw [itD_d] at h
 exact ⟨t,hd,h.1,fun _=>h.2⟩
noncomputable def dotI : It:=([46,46],(fun r=>.sg [46,46] :: r,.none))
theorem dot_ok (hz : 2≤Z) : POk Z (dotI.1,dotI.2.1):=⟨(tx_close (Z:=Z) (s:=[46,46]) (k:=2) rfl rfl).up (by rw [Nat.zero_mul,Nat.zero_add]; exact hz),rfl⟩
theorem rwT_dot {a : TL} : ∀ {xs : List TL} {r : List Tk},rwT (xs ++ [a]) false r=xs.foldr (fun x r=>x (.sg [44] :: r)) (a r)
 | [],_=>rfl
 | x :: [],_=>rfl
 | x :: y :: z,r=>congrArg (fun q=>x (.sg [44] :: q)) (rwT_dot (xs:=y :: z))
theorem plist_dot : plist (itT (its ++ [dotI]))=plist (itT its) ++ [dotI.2.1]:=by unfold plist itT; rw [List.map_append,List.map_append]; rfl
theorem row_dot (h : Row Z (itP its)) (hl : its.length≤3) (hz : 2≤Z) : Row Z (itP (its ++ [dotI])):=⟨it_row fun i hi=>(List.mem_append.mp hi).elim (fun hi=>h.ok _ (List.mem_map_of_mem hi)) fun hi=>List.mem_singleton.mp hi ▸ dot_ok hz,by rw [itP_len,List.length_append]; exact Nat.succ_le_succ hl⟩
theorem tx_brace : Tx Z cA 0 3 [32,123,32] (fun r=>.sg [123] :: r):=(Tx.blank (C:=cA) (x:=32) (.inl rfl)).app ((tx_any (s:=[123]) (k:=1) rfl rfl).app (.blank (C:=cA) (.inl rfl)) rfl) rfl
theorem brace_end (h : Tx Z cE 5 36 s w) (b : Bool) : Tx Z cU 5 44 (s ++ (if b then [32,125] else [125])) (fun r=>w (.sg [125] :: r)):=by
 cases b with
 | false=>exact (row_end h (e:=[125]) rfl rfl rfl).le rfl rfl
 | true=>
  have t:=row_end (Gp.sp (C:=cE) rfl h) (e:=[125]) rfl rfl rfl
  rw [List.append_assoc] at t; exact t
theorem wp_fend {n : Nat} {σ τ : Store} {E : Ke} {Q : Kv} {a b : D} (v : Lq Z Z') (hp : GV Z k g ds) (hk : k≤n) (hr : Row (Z + 8) (itP its)) (hl : τ[σ.length]?=some (.lst ((tx1 (itP its)).map .str))) (hc : τ.take σ.length=σ)
  (q : ∀ s s' w,PV (Z + 8) k s w ds→Tx (Z + 8) cU 5 44 s' (fun r=>w (.sg [123] :: rwT (plist (itT its)) false (.sg [125] :: r)))→hdC cS s'=true→Q (.d (.str s')) σ) :
  wSs Bx (Cl n) ((F .writeFields).body.drop 2) (Nd σ.length Q) (Jd σ.length E Q) [some (.d (.tup [.str s,.int 0,.tup ds,a,b])),some (.l σ.length),none,none] τ:=
 hp.wr hk fun s w px=>by
  have px' : PV (Z + 8) k s w ds:=⟨px.tx.up (by omega),px.hd,px.pp⟩
  have t:=brace_end (tx_behind (its:=its) px'.tx tx_brace rfl c_A hr) (!((tx1 (itP its)).map D.str).isEmpty)
  have f:=t.fit v.hi8 (by decide) (by decide)
  refine ad (pre (pre f)) (join_l hl rfl (hr.fit v.hi8 (by decide)) ?_)
  rw [itP_s]
  refine ad (pre f) (cmp_ne_nil (itP_s its ▸ hl) (br_m ?_))
  rw [itP_s] at f t
  exact ad f (zc (hc.symm ▸ q s _ w px' t (hdC.app (hdC.app (hdC.app px.hd)))))
end
end Mine
namespace Mine
section
variable {Z Z' c l k k' g m i : Nat} {o mu r rest : Bool} {s s' x y sep : List Nat} {w w' : TL} {p d : D} {ps ds : List D} {its : List It} {last : Bool}
theorem if_fit (v : Lq Z Z') {i : It} (h : IF (Z + 8) k i) : fitS i.1=true:=h.tx.fit v.hi8 (by decide) (by decide)
theorem if_Row (hI : ∀ i∈its,IF Z k i) (hl : its.length≤4) : Row Z (itP its):=⟨it_row fun i hi=>(hI i hi).pk,by rw [itP_len]; exact hl⟩
theorem str_dot : (tx1 (itP (its ++ [dotI]))).map D.str=(tx1 (itP its)).map D.str ++ [.str [46,46]]:=by unfold tx1 itP; rw [List.map_append,List.map_append,List.map_append]; rfl
theorem fldT_false : fldT (plist (itT its)) false false=rwT (plist (itT its)) false:=rfl
theorem wp_fields (v : Lq Z Z') (hp : GV Z k g ds) (h : ∀ p∈ps,GF Z k g p) (hl : ps.length≤3) : WrQ Z' (k + 20) true (.tup [.str [102,105,101,108,100,115],.int 0,.tup ds,.tup ps,.bool rest]):=fun n hn σ E Q q=>def_k hn rfl fun m hm=>def_k (k:=k + 18) (show k + 18 + 1≤m from hm) rfl fun m hm=>
 ⟨comp_w (α:=It) (key:=fun i=>i.2.2) (val:=fun i=>.str i.1) (P:=IF (Z + 8) (k + 4)) (U:=fun τ=>τ=σ) ps [] rfl (Nat.le_trans (Nat.le_of_eq (Nat.zero_add _)) (Nat.le_trans hl (by decide)))
  (fun x hx0 τ K' hU q'=>by
   cases h x hx0 with
   | mk hx hq=>exact ad (by
     have : ∀ x∈labels,fitS (x ++ [58,32])=true:=by decide +kernel
     exact this _ (mem_c hx)) (hq.wq (Nat.le_trans (Nat.le_add_right k 18) hm) fun s w t=>FX.of hx col_w rfl t fun w' f=>by
      have f' : FX (Z + 8) 1 0 (k + 4) _ _ _:=f.up (by omega) (Nat.le_refl _)
      exact ad (if_fit (i:=(_,(_,_))) v f') (q' (_,(w',_)) τ rfl f' hU))) fun its τ ek hI hU=>by
   subst hU; subst ek
   have hl3 : its.length≤3:=by rw [List.length_map] at hl; exact hl
   have hl' : its.length≤4:=Nat.le_succ_of_le hl3
   have row:=if_Row hI hl'
   have hk:=Nat.le_trans (Nat.le_add_right k 18) hm
   refine bin_ok (fit_small (Nat.le_trans (Nat.le_of_eq (List.length_map _)) (Nat.le_trans hl' (by decide)))) ?_
   rw [List.nil_append,it_str]
   have fin : ∀ s s' w,PV (Z + 8) k s w ds→Tx (Z + 8) cU 5 44 s' (fun r=>w (.sg [123] :: fldT (plist (itT its)) rest false (.sg [125] :: r)))→hdC cS s'=true→Q (.d (.str s')) τ:=fun s s' w px t hd=>
    q _ _ ((QX.fields (k:=k + 4) ⟨px.tx,px.hd,px.pp.mono (Nat.le_add_right _ _)⟩ (fun i hi=>(hI i hi).it) (Nat.le_trans hl' (by decide)) t hd).up (by have:=v.up; omega) (show k + 14≤k + 20 from Nat.add_le_add_left (by decide) k))
   cases rest with
   | false=>exact wp_fend v hp hk row get_top List.take_left fun s s' w px t hd=>zd rfl (fin s s' w px t hd)
   | true=>
    refine ls get_top (ls get_top (bt (fit_small (by rw [List.length_append,List.length_map,tx1_len,itP_len]; exact Nat.le_trans (Nat.succ_le_succ hl') (by decide))) ?_))
    refine wp_fend (its:=its ++ [dotI]) v hp hk (row_dot row hl3 (Nat.le_add_left 2 (Z + 6))) ((get_set get_top).trans (congrArg (fun q=>some (Ent.lst q)) str_dot.symm)) (take_set' (Nat.le_refl _) List.take_left) fun s s' w px t hd=>zd rfl (fin s s' w px ?_ hd)
    have e : (fun r=>w (.sg [123] :: rwT (plist (itT (its ++ [dotI]))) false (.sg [125] :: r)))=fun r=>w (.sg [123] :: fldT (plist (itT its)) true false (.sg [125] :: r)):=funext fun r=>by
     rw [plist_dot,rwT_dot]; rfl
    exact e ▸ t⟩
end
end Mine
namespace Mine
section
variable {Z Z' c l k k' g m i : Nat} {o mu r rest : Bool} {s s' x y sep : List Nat} {w w' : TL} {p d : D} {ps ds : List D} {its : List It} {last : Bool} {σ : Store} {v0 v1 v2 v3 v4 v5 v6 : Option V}
noncomputable def cmS (its : List It) : List (List Nat):=its.map fun i=>i.1 ++ [44,32]
theorem join_nil {x : List Nat} : ∀ {xs : List (List Nat)},joinS [] (x :: xs)=x ++ joinS [] xs
 | []=>(List.append_nil x).symm
 | y :: z=>show x ++ [] ++ joinS [] (y :: z)=_ by rw [List.append_nil]
theorem tx_comma (h : POk Z (s,w)) : Tx Z cA 1 8 (s ++ [44,32]) (fun r=>w (.sg [44] :: r)):=h.1.app (sep_sp Z).1 rfl
theorem cat_tx : ∀ (its : List It),(∀ i∈its,POk Z (i.1,i.2.1))→Tx Z cU its.length (its.length * 8 + 3) (joinS [] (cmS its) ++ [46,46,125]) (fun r=>fldT (plist (itT its)) true false (.sg [125] :: r))∧hdC cS (joinS [] (cmS its) ++ [46,46,125])=true
 | [],_=>⟨((tx_close (s:=[46,46]) (k:=2) rfl rfl).app (tx_close (s:=[125]) (k:=1) rfl rfl) rfl).mono (fun _=>id) (Nat.le_refl _) (by decide),rfl⟩
 | i :: its,h=>by
  have h1:=h i (.head _)
  have h2:=cat_tx its fun j hj=>h j (.tail _ hj)
  have t:=(tx_comma h1).app h2.1 (hdC.mono h2.2 c_A)
  rw [show joinS [] (cmS (i :: its))=(i.1 ++ [44,32]) ++ joinS [] (cmS its) from join_nil,List.append_assoc]
  exact ⟨t.mono (fun _=>id) (Nat.le_of_eq (Nat.add_comm _ _)) (by rw [List.length_cons,Nat.succ_mul,Nat.add_right_comm,Nat.add_comm _ 8]; exact Nat.le_refl _),hdC.app (hdC.app h1.2)⟩
theorem comp_cm {K : List D→Store→Prop} : ∀ (its : List It) (acc : List D),(∀ i∈its,fitS (i.1 ++ [44,32])=true)→acc.length + its.length≤1000→K (acc ++ (cmS its).map .str) σ →
  wComp (wX Bx (Cl m) (.bin .add (.v 6) (.c (.str [44,32])))).v (fun _ σ _ K=>K true σ) [v0,v1,v2,v3,v4,v5,v6] [6] ((itS its).map .str) acc σ K
 | [],acc,_,h,k=>bt (fit_small h) ((List.append_nil acc) ▸ k)
 | i :: its,acc,hr,h,k=>by
  refine ad (hr i (.head _)) ?_
  exact comp_cm its (acc ++ [.str (i.1 ++ [44,32])]) (fun x hx=>hr x (.tail _ hx)) (by rw [List.length_append,Nat.add_assoc,Nat.add_comm [D.str _].length]; exact h) (by rw [List.append_assoc]; exact k)
theorem cm_fit (v : Lq Z Z') (h : ∀ i∈its,POk (Z + 8) (i.1,i.2.1)) (i : It) (hi : i∈its) : fitS (i.1 ++ [44,32])=true:=(tx_comma (h i hi)).fit v.hi8 (by decide) (by decide)
theorem cm_sum (v : Lq Z Z') (h : ∀ i∈its,POk (Z + 8) (i.1,i.2.1)) (hl : its.length≤4) : ((cmS its).map List.length).sum + (cmS its).length * ([] : List Nat).length≤LIM:=join_fit (Z:=Z + 8) v.hi8 (fun s hs=>by
  obtain ⟨i,hi,e⟩:=List.mem_map.mp hs
  exact e ▸ (tx_comma (h i hi)).ln) (by rw [cmS,List.length_map]; exact Nat.le_trans hl (by decide)) (Nat.zero_le _)
theorem lp_fields (v : Lq Z Z') (hp : GV Z k g ds) (h : ∀ p∈ps,GF Z k g p) (hl : ps.length≤3) : LpQ Z' (k + 20) (.tup [.str [102,105,101,108,100,115],.int 0,.tup ds,.tup ps,.bool rest]):=fun n hn σ i E Q hs q=>def_k hn rfl fun m hm=>
 ⟨comp_w (α:=It) (key:=fun i=>i.2.2) (val:=fun i=>.str i.1) (P:=IF (Z + 8) k) (U:=fun τ=>Upd i σ τ) ps [] (.refl hs) (Nat.le_trans (Nat.le_of_eq (Nat.zero_add _)) (Nat.le_trans hl (by decide)))
  (fun x hx0 τ K' hU q'=>by
   cases h x hx0 with
   | mk hx hq=>exact hq.lf (Nat.le_trans (Nat.le_add_right k 19) hm) hx hU.src fun s w τ' f u=>q' (s,(w,_)) τ' rfl (f.up (by omega) (Nat.le_refl _)) (hU.trans u)) fun its τ ek hI hU=>by
   subst ek
   have hl3 : its.length≤3:=by rw [List.length_map] at hl; exact hl
   have hl' : its.length≤4:=Nat.le_succ_of_le hl3
   have row:=if_Row hI hl'
   have hk:=Nat.le_trans (Nat.le_add_right k 19) hm
   have hP : ∀ i∈its,POk (Z + 8) (i.1,i.2.1):=fun i hi=>(hI i hi).pk
   refine mk_ok (fit_small (Nat.le_trans (Nat.le_of_eq (List.length_map _)) (Nat.le_trans hl' (by decide)))) ?_
   rw [List.nil_append,it_str]
   have fin : ∀ s s' w last τ',PV (Z + 8) k s w ds→Upd i σ τ'→Tx (Z + 8) cU 5 49 s' (fun r=>w (.sg [123] :: fldT (plist (itT its)) rest last (.sg [125] :: r)))→hdC cS s'=true→Q (.d (.str s')) τ':=fun s s' w last τ' px u t hd=>
    q _ _ _ ((QX.fields px (fun i hi=>(hI i hi).it) (Nat.le_trans hl' (by decide)) t hd).up (by have:=v.up; omega) (Nat.add_le_add_left (by decide) k)) u
   have px' : ∀ {s w},PV Z k s w ds→PV (Z + 8) k s w ds:=fun px=>⟨px.tx.up (by omega),px.hd,px.pp⟩
   cases rest with
   | true=>
    refine hp.lw hk hU.src fun s w τ1 px u=>?_
    have t:=((px' px).tx.app (s':=[123]) (tx_any (k:=1) rfl rfl) rfl).app (cat_tx its hP).1 (hdC.mono (cat_tx its hP).2 c_A)
    rw [← List.append_assoc] at t
    have t:=t.mono (c':=5) (k':=49) (fun _=>id) (by rw [Nat.add_comm]; exact Nat.succ_le_succ hl') (by omega)
    have f:=t.fit v.hi8 (by decide) (by decide)
    refine ad (pre (pre f)) ⟨itP_s its ▸ comp_cm its [] (cm_fit v hP) (by rw [List.length_nil,Nat.zero_add]; exact Nat.le_trans hl' (by decide)) (mk_ok (fit_small (by rw [List.nil_append,List.length_map,cmS,List.length_map]; exact Nat.le_trans hl' (by decide))) (join_w (List.nil_append _) (cm_sum v hP hl') (ad (pre f) (ad f ?_))))⟩
    have uu:=hU.trans u
    exact zd uu.len (fin s _ w false _ (px' px) uu t (hdC.app (hdC.app (hdC.app px.hd))))
   | false=>
    refine hp.lw hk hU.src fun s w τ1 px u=>l_row (Nat.le_trans (by decide) (tl hm)) u.src row v.hi8 (tx_any (s:=[123]) (k:=1) rfl rfl) c_A rfl rfl rfl rfl fun s' last τ' _ t hd u'=>?_
    rw [itP_w] at t
    have t':=((px' px).tx.app t (hd cU rfl)).le (c':=5) (k':=49) rfl rfl
    have uu:=(hU.trans u).trans u'
    exact ad (t'.fit v.hi8 (by decide) (by decide)) (zd uu.len (fin s _ w last _ (px' px) uu t' (hdC.app px.hd)))⟩
end
end Mine
namespace Mine
noncomputable def DrawQ (Z k g kk : Nat) (z : Int) : Prop:=∀ ⦃n⦄,kk≤n→∀ ⦃σ i E Q⦄,Srce σ i→(∀ ps σ',GQ Z k g (.tup ps)→Upd i σ σ'→Q (.d (.tup ps)) σ')→Cl n .lawSort [.l i,.d (.int z)] σ E Q
section
variable {Z Z' c l k k' g m n i kk : Nat} {o mu r rest : Bool} {s s' x y : List Nat} {w w' : TL} {p d : D} {ps ds acc : List D} {z : Int} {od : Option (List D)} {σ τ σ₀ : Store} {E : Ke} {Q : Kv} {N : Kn} {J : Mine.J} {v0 v1 v2 v3 : Option V}
theorem szs2 (v : Lr Z Z') {a b : Nat} (ha : a≤Z) (hb : b≤4 * Z) {q : Nat} (hq : q≤10) : 1 + (1 + ((a + 2) + ((b + 2) + q))) + 2≤Z':=v.sz (by omega)
theorem two_dep (hd : D.deps ds≤g) (hp : D.deps ps≤g + 1) (h0 : D.deps acc=0) : (D.tup (.str s :: .int 0 :: .tup ds :: .tup ps :: acc)).dep≤g + 4:=
 dep_t (Nat.max_le.mpr ⟨Nat.zero_le _,Nat.max_le.mpr ⟨Nat.zero_le _,Nat.max_le.mpr ⟨Nat.le_trans (dep_t hd) (Nat.add_le_add_left (by decide) g),Nat.max_le.mpr ⟨Nat.le_trans (dep_t hp) (Nat.le_succ _),Nat.le_trans (Nat.le_of_eq h0) (Nat.zero_le _)⟩⟩⟩⟩)
theorem GQ.var (v : Lr Z Z') (hp : GV Z k g ds) (h : ∀ p∈ps,GQ Z k g p) (hl : ps.length≤4) : GQ Z' (k + 40) (g + 4) (.tup [.str [118,97,114,105,97,110,116],.int 0,.tup ds,.tup ps]):=
 .plain v.q v.up rfl rfl rfl (wp_var v.q hp h hl) (lp_var v.q hp h hl) (two_dep hp.dep (Nat.le_succ_of_le (gq_dep h)) rfl) (szs2 v hp.sz (gq_sz h hl) (q:=0) (by decide))
theorem GF.me (h : GF Z k g d) : d.dep≤g + 1∧sz d≤Z + 3:=by
 cases h with
 | mk hx hq=>exact ⟨dep_t (depA (al1 (Nat.zero_le _) (al1 hq.dep al0))),(by
  have:=hq.sz
  show 1 + (Mine.sz _ + 0) + 2≤_
  omega)⟩
theorem GQ.fields (v : Lr Z Z') (hp : GV Z k g ds) (h : ∀ p∈ps,GF Z k g p) (hl : ps.length≤3) : GQ Z' (k + 40) (g + 4) (.tup [.str [102,105,101,108,100,115],.int 0,.tup ds,.tup ps,.bool rest]):=
 .plain v.q v.up rfl rfl rfl (wp_fields v.q hp h hl) (lp_fields v.q hp h hl) (two_dep hp.dep (deps_le fun p hp=>(h p hp).me.1) rfl)
  (szs2 v hp.sz (Nat.le_trans (szs_le fun p hp=>(h p hp).me.2) (Nat.le_trans (Nat.mul_le_mul_right _ hl) (by have:=v.lo; omega))) (q:=1) (by decide))
theorem GQ.nm (v : Lr Z Z') (hx : bindNames.contains x=true) (h : ∀ ps,od=some ps→GQ Z k g (.tup ps)) : GQ Z' (k + 40) (g + 4) (bindD x r mu (inD od)):=by
 cases od with
 | none=>exact .name0 v hx
 | some ps=>exact .nameI v hx (h ps rfl)
theorem d_name (v : Lr Z Z') (hn : 4≤n) (hk : kk + 1≤n) (hd : decide (0 < z)=true→DrawQ Z k g kk (z - 1)) (hs : Srce σ i) (q : ∀ ps σ',GQ Z' (k + 40) (g + 4) (.tup ps)→Upd i σ σ'→Q (.d (.tup ps)) σ') : Cl n .lawName [.l i,.d (.int z)] σ E Q:=by
 cases n with
 | zero=>cases hn
 | succ m=>
  have hm:=sl hn
  have hk:=sl hk
  have h2 : 2≤m:=Nat.le_of_succ_le hm
  have h1 : 1≤m:=Nat.le_of_succ_le h2
  have X : ∀ od τ,(∀ ps,od=some ps→GQ Z k g (.tup ps))→Upd i σ τ→wSs Bx (Cl m) ((F .lawName).body.drop 1) (Nd σ.length Q) (Jd σ.length E Q) [some (.l i),some (.d (.int z)),some (.d (inD od))] τ:=fun od τ ho u=>
   w_one h2 u.src rfl fun τ1 u1=>
    have Y : ∀ x,bindNames.contains x=true→Cl m .lawTake [.l i,.d (.int 3)] τ1 (fun σ'=>E (σ'.take σ.length)) fun y τ=>Op (cmpV τ .eq y (.d (.int 0))) fun r=>Cl m .lawTake [.l i,.d (.int 3)] τ (fun σ'=>E (σ'.take σ.length)) fun y τ=>Op (cmpV τ .eq y (.d (.int 0))) fun mu=>allK [.d (.str [110,97,109,101]),.d (.int 0),.d (.str x),.d (.bool r),.d (.bool mu),.d (inD od)] fun ds=>Bt (fitD ds) (Zd σ.length Q false (.d (.tup ds)) τ):=fun x hx=>
     w_take1 (top:=3) h1 u1.src (by decide) (by decide) fun _ τ2 _ u2=>w_take1 (top:=3) h1 u2.src (by decide) (by decide) fun _ τ3 _ u3=>
      have uu:=((u.trans u1).trans u2).trans u3
      zd uu.len (q _ _ (.nm v hx ho) uu)
    al1 (Y _ rfl) (al1 (Y _ rfl) (al1 (Y _ rfl) al0))
  refine def_s rfl (b1_c (fun hz=>?_) fun _=>X none σ nofun (.refl hs))
  exact w_take1 (top:=4) h1 hs (by decide) (by decide) fun _ σ1 _ u1=>br_c (hd hz hk u1.src fun ps σ2 hp u2=>X (some ps) σ2 (fun _ e=>Option.some.inj e ▸ hp) (u1.trans u2)) (X none σ1 nofun u1)
end
end Mine
namespace Mine
noncomputable def fldL : List S:=[.if_ (.bop true [(.cmp .ne (.v 3) (.c (.str [48]))),(.cmp .eq (.call .lawTake [(.v 0),(.c (.int 2))]) (.c (.int 0)))]) [.app 2 (.tup [(.v 3),(.tup [(.c (.str [110,97,109,101])),(.c (.int 0)),(.v 3),(.cmp .eq (.call .lawTake [(.v 0),(.c (.int 2))]) (.c (.int 0))),(.cmp .eq (.call .lawTake [(.v 0),(.c (.int 2))]) (.c (.int 0))),(.c .none)])])] [.app 2 (.tup [(.v 3),(.call .lawSort [(.v 0),(.bin .sub (.v 1) (.c (.int 1)))])])]]
section
variable {Z Z' c l k k' g g' m n i kk : Nat} {o mu r rest : Bool} {s s' x y : List Nat} {w w' : TL} {p d : D} {ps ds acc : List D} {z : Int} {od : Option (List D)} {σ τ σ₀ : Store} {E : Ke} {Q : Kv} {N : Kn} {J : Mine.J} {v0 v1 v2 v3 : Option V}
theorem fit3 {xs ys : List D} (h : xs.length≤3) (h' : ys.length≤3) : fitD (xs ++ ys)=true:=fit_small (by rw [List.length_append]; exact Nat.le_trans (Nat.add_le_add h h') (by decide))
theorem lab_b (hx : labels.contains x=true) (h : (!(D.eq (.str x) (.str [48])))=true) : bindNames.contains x=true:=lab_el hx (fun e=>by subst e; cases h) id
theorem f_turn (hd : DrawQ Z k g kk (z - 1)) (hq : ∀ x r mu,bindNames.contains x=true→GQ Z k g (bindD x r mu .none)) (h1 : 1≤m) (hk : kk≤m) (hi : i < σ₀.length) (hx : labels.contains x=true) (pi : PI i σ₀ acc σ) (hf : acc.length≤3) (q : ∀ d σ',GF Z k g d→PI i σ₀ (acc ++ [d]) σ'→N [some (.l i),some (.d (.int z)),some (.l σ₀.length),some (.d (.str x))] σ') :
  wSs Bx (Cl m) fldL N J [some (.l i),some (.d (.int z)),some (.l σ₀.length),some (.d (.str x))] σ:=by
 have long : ∀ {τ},PI i σ₀ acc τ→wSs Bx (Cl m) [.app 2 (.tup [(.v 3),(.call .lawSort [(.v 0),(.bin .sub (.v 1) (.c (.int 1)))])])] N J [some (.l i),some (.d (.int z)),some (.l σ₀.length),some (.d (.str x))] τ:=fun pi=>
  ls pi.li (hd hk pi.ex.src fun ps τ1 hp u1=>have pi1:=pi.upd hi u1; ls pi1.li (bt (fit3 hf (Nat.le_add_left 1 2)) (q _ _ (.mk hx hp) (pi1.push hi))))
 refine b1_c (fun hne=>w_take1 (top:=2) h1 pi.ex.src (by decide) (by decide) fun _ σ1 _ u1=>br_c ?_ (long (pi.upd hi u1))) fun _=>long pi
 have pi1:=pi.upd hi u1
 exact ls pi1.li (w_take1 (top:=2) h1 pi1.ex.src (by decide) (by decide) fun _ σ2 _ u2=>w_take1 (top:=2) h1 u2.src (by decide) (by decide) fun _ σ3 _ u3=>
  have pi3:=pi1.upd hi (u2.trans u3)
  ls pi3.li (bt (fit3 hf (Nat.le_add_left 1 2)) (q _ _ (.mk hx (hq _ _ _ (lab_b hx hne))) (pi3.push hi))))
theorem lt4 {k : Nat} (h : k < 4) : k=0∨k=1∨k=2∨k=3:=by omega
theorem d_fields (v : Lr Z Z') (lo : 2400≤Z) (hk0 : k' + 6≤k) (hg0 : g' + 2≤g) (hn : 4≤n) (hk : kk + 1≤n) (hd : DrawQ Z k g kk (z - 1)) (hq : ∀ x r mu,bindNames.contains x=true→GQ Z k g (bindD x r mu .none)) (hs : Srce σ i) (q : ∀ ps σ',GQ Z' (k + 40) (g + 4) (.tup ps)→Upd i σ σ'→Q (.d (.tup ps)) σ') : Cl n .lawFields [.l i,.d (.int z)] σ E Q:=by
 cases n with
 | zero=>cases hn
 | succ m=>
  have hm:=sl hn
  have hk:=sl hk
  have hi:=hs.lt
  have h1 : 1≤m:=Nat.le_trans (by decide) hm
  have fin : ∀ {ps τ v3},(∀ p∈ps,GF Z k g p)→ps.length≤3→PI i σ ps τ→wSs Bx (Cl m) ((F .lawFields).body.drop 2) (Nd σ.length Q) (Jd σ.length E Q) [some (.l i),some (.d (.int z)),some (.l σ.length),v3] τ:=fun hp hl pi=>
   d_path (z:=0) (kk:=0) (g:=g') (k:=k') (Z:=280) (Nat.le_trans (by decide) hm) hm nofun pi.ex.src fun ds τ1 hg u1=>
    have pi1:=pi.upd hi u1
    with_l pi1.li (w_take1 (top:=2) h1 pi1.ex.src (by decide) (by decide) fun _ τ2 _ u2=>zc (q _ _ (.fields v (.of hg lo hk0 hg0) hp hl) ((pi1.upd hi u2).ex.cut hi)))
  refine def_s rfl (w_take1 (top:=4) h1 (PI.init hs).ex.src (by decide) (by decide) fun k0 σ1 h0 u1=>?_)
  have pi:=(PI.init hs).upd hi u1
  rcases lt4 h0 with rfl | rfl | rfl | rfl
  ·exact ⟨fin (ps:=[]) nofun (Nat.le_of_ble_eq_true rfl) pi⟩
  ·exact ⟨f_turn hd hq h1 hk hi rfl pi (Nat.le_of_ble_eq_true rfl) fun d σ2 g1 pi2=>fin (fun p hp=>List.mem_singleton.mp hp ▸ g1) (Nat.le_of_ble_eq_true rfl) pi2⟩
  ·exact ⟨f_turn hd hq h1 hk hi rfl pi (Nat.le_of_ble_eq_true rfl) fun d σ2 g1 pi2=>f_turn hd hq h1 hk hi rfl pi2 (Nat.le_of_ble_eq_true rfl) fun d' σ3 g2 pi3=>fin (fun p hp=>(List.mem_cons.mp hp).elim (fun e=>e ▸ g1) fun hp=>List.mem_singleton.mp hp ▸ g2) (Nat.le_of_ble_eq_true rfl) pi3⟩
  ·exact ⟨f_turn hd hq h1 hk hi rfl pi (Nat.le_of_ble_eq_true rfl) fun d σ2 g1 pi2=>f_turn hd hq h1 hk hi rfl pi2 (Nat.le_of_ble_eq_true rfl) fun d' σ3 g2 pi3=>f_turn hd hq h1 hk hi rfl pi3 (Nat.le_of_ble_eq_true rfl) fun d'' σ4 g3 pi4=>fin (fun p hp=>(List.mem_cons.mp hp).elim (fun e=>e ▸ g1) fun hp=>(List.mem_cons.mp hp).elim (fun e=>e ▸ g2) fun hp=>List.mem_singleton.mp hp ▸ g3) (Nat.le_of_ble_eq_true rfl) pi4⟩
end
end Mine
namespace Mine
section
variable {Z Z' c l k k' g g' m n i kk : Nat} {o mu r rest : Bool} {s s' x y : List Nat} {w w' : TL} {p d : D} {ps ds acc : List D} {z : Int} {σ τ σ₀ : Store} {E : Ke} {Q : Kv} {v0 v1 v2 v3 : Option V}
noncomputable abbrev Dq (Z k g i : Nat) (σ : Store) (Q : Kv) : Prop:=∀ ps σ',GQ Z k g (.tup ps)→Upd i σ σ'→Q (.d (.tup ps)) σ'
theorem d_lit (v : Lr Z Z') (hm : 2≤m) (u : Upd i σ τ) (q : Dq Z' (k + 40) (g + 4) i σ Q) : Cl m .lawOne [.l i,.d (.lst [.int 0,.int 7,.int (-1),.int (-128),.bool true,.bool false])] τ E fun y τ=>Vd y fun d=>Zd σ.length Q false (.d (.tup [.str [108,105,116],.int 0,d])) τ:=
 w_one hm u.src rfl fun σ1 u1=>have uu:=u.trans u1
  al1 (zd uu.len (q _ _ (.int v nq0) uu)) (al1 (zd uu.len (q _ _ (.int v nq7) uu)) (al1 (zd uu.len (q _ _ (.int v nq_1) uu)) (al1 (zd uu.len (q _ _ (.int v nq_128) uu)) (al1 (zd uu.len (q _ _ (.tt v) uu)) (al1 (zd uu.len (q _ _ (.ff v) uu)) al0)))))
theorem d_range (v : Lr Z Z') (hm : 2≤m) (u : Upd i σ τ) (q : Dq Z' (k + 40) (g + 4) i σ Q) : Cl m .lawOne [.l i,.d (.lst [.int (-5),.int 0,.int 3])] τ E fun a τ=>Cl m .lawOne [.l i,.d (.lst [.int (-2),.int 0,.int 9])] τ E fun b τ=>Vd a fun a=>Vd b fun b=>Zd σ.length Q false (.d (.tup [.str [114,97,110,103,101],.int 0,a,b])) τ:=
 w_one hm u.src rfl fun σ1 u1=>
  have Y : ∀ {z s w},NumQ z s w→Cl m .lawOne [.l i,.d (.lst [.int (-2),.int 0,.int 9])] σ1 E fun b τ=>Vd b fun b=>Zd σ.length Q false (.d (.tup [.str [114,97,110,103,101],.int 0,.int z,b])) τ:=fun h=>
   w_one hm u1.src rfl fun σ2 u2=>have uu:=(u.trans u1).trans u2
    al1 (zd uu.len (q _ _ (.range v h nq_2) uu)) (al1 (zd uu.len (q _ _ (.range v h nq0) uu)) (al1 (zd uu.len (q _ _ (.range v h nq9) uu)) al0))
  al1 (Y nq_5) (al1 (Y nq0) (al1 (Y nq3) al0))
theorem dq_name (u : Upd i σ τ) (q : Dq Z' k g i σ Q) : Dq Z' k g i τ (fun x τ=>Zd σ.length Q false x τ):=fun ps σ' h u'=>have uu:=u.trans u'; zd uu.len (q ps σ' h uu)
theorem sort0 (v : Lr Z Z') : DrawQ Z' (k + 40) (g + 4) 5 0:=fun n hn σ i E Q hs q=>def_k hn rfl fun m hm=>
 have h2 : 2≤m:=Nat.le_trans (by decide) hm
 w_take1 (top:=4) (Nat.le_of_succ_le h2) hs (by decide) (by decide) fun c σ1 hc u1=>by
  rcases lt4 hc with rfl | rfl | rfl | rfl
  ·exact zd u1.len (q _ _ (.wild v) u1)
  ·exact d_name (kk:=0) v hm (Nat.le_trans (by decide) hm) nofun u1.src (dq_name u1 q)
  ·exact d_lit v h2 u1 q
  ·exact d_range v h2 u1 q
end
end Mine
namespace Mine
section
variable {Z Z' c l k k' g g' m n i kk : Nat} {o mu r rest : Bool} {s s' x y : List Nat} {w w' : TL} {p d : D} {ps ds acc : List D} {z : Int} {σ τ σ₀ : Store} {E : Ke} {Q : Kv} {v0 v1 v2 v3 : Option V}
theorem sortS (hz : decide (0 < z)=true) (v : Lr Z Z') (lo : 2400≤Z) (hk0 : 21≤k) (hg0 : 6≤g) (hd : DrawQ Z k g kk (z - 1)) (hq : ∀ x r mu,bindNames.contains x=true→GQ Z k g (bindD x r mu .none)) : DrawQ Z' (k + 40) (g + 4) (kk + 7) z:=fun n hn σ i E Q hs q=>def_k hn rfl fun m hm=>
 have h6 : 6≤m:=tl hm
 have h4 : 4≤m:=Nat.le_of_succ_le (Nat.le_of_succ_le h6)
 have h3 : 3≤m:=Nat.le_of_succ_le h4
 have h2 : 2≤m:=Nat.le_of_succ_le h3
 have h1 : 1≤m:=Nat.le_of_succ_le h2
 have hk1 : kk + 1≤m:=Nat.le_trans (Nat.add_le_add_left (by decide) kk) hm
 have hk : kk≤m:=Nat.le_of_succ_le hk1
 have lv : Lv 10 280:=⟨by decide,by decide,by decide⟩
 br_t hz (w_take1 (top:=9) h1 hs (by decide) (by decide) fun c σ1 _ u1=>br_c (zd u1.len (q _ _ (.wild v) u1))
  (br_c (d_name v h4 hk1 (fun _=>hd) u1.src (dq_name u1 q))
  (br_c (d_lit v h2 u1 q)
  (br_c (d_range v h2 u1 q)
  (w_take1 (top:=3) h1 u1.src (by decide) (by decide) fun k3 σ2 hk3 u2=>bin_ok (rng_ok (Nat.le_of_lt_succ hk3)) ⟨drawnP (P:=GQ Z k g) (c:=k3) u2.src (Nat.le_of_lt_succ hk3)
   (fun x τ K' hs' q'=>hd hk hs' fun ps τ' hp u=>q' _ τ' hp u) fun ts σ3 ht htl u3=>mk_ok (fit_small (Nat.le_trans htl (by decide)))
   (have uu:=(u1.trans u2).trans u3
    have htl4 : ts.length≤4:=Nat.le_trans htl (by decide)
    br_c (zd uu.len (q _ _ (.tup v ht htl4) uu))
   (br_c (d_path (z:=1) (kk:=4) (k:=15) (g:=4) (Z:=280) (Nat.le_trans (by decide) h6) h3 (fun _=>type0 (k:=0) (g:=0) lv) uu.src fun ds σ4 hg u4=>have u5:=uu.trans u4; zd u5.len (q _ _ (.var v (.of hg lo hk0 hg0) ht htl4) u5))
   (br_c (d_fields (k':=15) (g':=4) v lo hk0 hg0 h4 hk1 hd hq uu.src (dq_name uu q))
   (br_c (w_take1 (top:=2) h1 uu.src (by decide) (by decide) fun _ σ4 _ u4=>hd hk u4.src fun ps σ5 hp u5=>have u6:=(uu.trans u4).trans u5; zd u6.len (q _ _ (.ref v hp) u6))
   (hd hk uu.src fun p1 σ4 g1 u4=>hd hk u4.src fun p2 σ5 g2 u5=>have u6:=(uu.trans u4).trans u5
    have hl : (ts ++ [D.tup p1,D.tup p2]).length=ts.length + 2:=List.length_append
    bin_ok (fit_small (by rw [hl]; exact Nat.le_trans (Nat.succ_le_succ (Nat.succ_le_succ htl)) (by decide))) (zd u6.len (q _ _ (.or v (fun p hp=>(List.mem_append.mp hp).elim (ht p) fun hp=>(List.mem_cons.mp hp).elim (fun e=>e ▸ g1) fun hp=>List.mem_singleton.mp hp ▸ g2) (by rw [hl]; exact Nat.le_add_left _ _) (by rw [hl]; exact Nat.succ_le_succ (Nat.succ_le_succ htl))) u6)))))))⟩)))))
end
end Mine
namespace Mine
open PySem.W
noncomputable def badT : List (List Nat):=[[],[38],[91,84,93],[91,84,59,32,120,93],[91,84,59,32,49,117,56,93],[65,60],[65,60,66],[40,65,44,32,66],[65,58,58,115,101,108,102],[38,39,97],[65,60,84,44,32,39,97,62],[65,58,58],[102,110],[49],[65,32,62]]
noncomputable def badP : List (List Nat):=[[],[49,117,56],[46,46],[65,32,123,120],[65,32,123,120,58,125],[114,101,102],[40,97],[120,32,64],[45,97],[49,32,46,46,61],[97,32,124],[102,110],[65,32,123,46,46,44,32,120,125],[65,40],[49,46,46,50],[120,32,64,32,124,32,121]]
noncomputable def badG : List (List Nat):=[[60],[60,84],[60,84,58,32,62],[60,84,44,32,39,97,62],[60,49,62],[60,84,58,32,65,32,43,62],[60,84,62,62],[60,102,110,62]]
noncomputable def two (e : Option Ent) (a : Ent) : Store:=match e with
 | none=>[a]
 | some e=>[e,a]
noncomputable def Bad (f : Fn) (ts : List (List Nat)) (σ : Store) : Prop:=∀ E Q,ts.map (fun s=>ClE 600 .lawBack [.fn f,.d (.str s)] σ E Q)=ts.map (fun _=>Q (V.d .none) σ)
theorem bT1 (a : Ent) : Bad .readType badT [a]:=fun E Q=>by kernel_rfl
theorem bT2 (a b : Ent) : Bad .readType badT [a,b]:=fun E Q=>by kernel_rfl
theorem bP1 (a : Ent) : Bad .readPattern badP [a]:=fun E Q=>by kernel_rfl
theorem bP2 (a b : Ent) : Bad .readPattern badP [a,b]:=fun E Q=>by kernel_rfl
theorem bG1 (a : Ent) : Bad .readGenerics badG [a]:=fun E Q=>by kernel_rfl
theorem bG2 (a b : Ent) : Bad .readGenerics badG [a,b]:=fun E Q=>by kernel_rfl
end Mine
namespace Mine
section
variable {n i m : Nat} {σ τ : Store} {E : Ke} {Q : Kv} {a b c : Ent} {k z : Int} {xs : List Int} {ts : List (List Nat)} {f : Fn} {P P' : Prop} {u : Bool}
theorem br_k (p : u=true→P) (p' : u=false→P') : Br u P P':=by
 cases u with
 | false=>exact p' rfl
 | true=>exact p rfl
theorem mul_ok {y : Int} (h0 : 0≤y) (h1 : y < 4294967296) : (decide (y.natAbs < 1267650600228229401496703205376) && decide ((48271 : Int).natAbs < 1267650600228229401496703205376))=true:=Bool.and_eq_true_iff.mpr ⟨decide_eq_true (by omega),rfl⟩
noncomputable def poolB : List S:=[.asg 3 (.prim .max false [(.v 2),(.bin .sub (.neg (.c (.int 1))) (.v 2))]),.asg 4 (.bin .mod (.bin .mul (.bin .add (.bin .add (.bin .add (.bin .mod (.v 3) (.c (.int 2147483629))) (.bin .mul (.bin .mul (.c (.int 7919)) (.v 1)) (.v 1))) (.bin .mul (.c (.int 31)) (.v 1))) (.c (.int 17))) (.c (.int 48271))) (.c (.int 2147483647))),
  .ret true (.lst true [(.ite (.cmp .ge (.v 3) (.bin .pow (.c (.int 10)) (.c (.int 18)))) (.v 3) (.c (.int 0))),(.v 4)])]
theorem pool_b {d : V} (hk : k=0∨k=1) (hi : i=σ.length) (q : ∀ a b,0≤b→b < 2147483647→Q (.l i) (σ ++ [.lst [.int a,.int b]])) : wSs Bx (Cl m) poolB (Nd i Q) (Jd i E Q) [some d,some (.d (.int k)),some (.d (.int z)),none,none] σ:=by
 subst hi
 have fin : ∀ y w : Int,wSs Bx (Cl m) (poolB.drop 2) (Nd σ.length Q) (Jd σ.length E Q) [some d,some (.d (.int k)),some (.d (.int z)),some (.d (.int w)),some (.d (.int (y % 2147483647)))] σ:=fun y w=>
  have q' : ∀ a,Zd σ.length Q true (.l σ.length) (σ ++ [.lst [.int a,.int (y % 2147483647)]]):=fun a=>zk (q a _ (Int.emod_nonneg _ (by decide)) (Int.emod_lt_of_pos _ (by decide)))
  br_c (q' w) (q' 0)
 have a0 : ∀ z : Int,0≤z % 2147483629:=fun z=>Int.emod_nonneg z (by decide)
 have a1 : ∀ z : Int,z % 2147483629 < 2147483629:=fun z=>Int.emod_lt_of_pos z (by decide)
 rcases hk with rfl | rfl
 ·have h0:=a0 (if -1 - z > z then -1 - z else z)
  have h1:=a1 (if -1 - z > z then -1 - z else z)
  exact bin_ok (mul_ok (y:=(if -1 - z > z then -1 - z else z) % 2147483629 + 7919 * 0 * 0 + 31 * 0 + 17) (by omega) (by omega)) (fin _ _)
 ·have h0:=a0 (if -1 - z > z then -1 - z else z)
  have h1:=a1 (if -1 - z > z then -1 - z else z)
  exact bin_ok (mul_ok (y:=(if -1 - z > z then -1 - z else z) % 2147483629 + 7919 * 1 * 1 + 31 * 1 + 17) (by omega) (by omega)) (fin _ _)
theorem w_pool (hn : 1≤n) (hk : k=0∨k=1) (q : ∀ a b,0≤b→b < 2147483647→Q (.l σ.length) (σ ++ [.lst [.int a,.int b]])) : Cl n .lawPool [.d (.lst (xs.map .int)),.d (.int k)] σ E Q:=by
 refine def_k hn rfl fun m hm=>?_
 have fin : ∀ z,wSs Bx (Cl m) poolB (Nd σ.length Q) (Jd σ.length E Q) [some (.d (.lst (xs.map .int))),some (.d (.int k)),some (.d (.int z)),none,none] σ:=fun z=>pool_b hk rfl q
 show Br (decide (k < ((xs.map D.int).length : Int))) (Ok (idxV σ (.d (.lst (xs.map .int))) (.d (.int k))) fun v σ'=>wSs Bx (Cl m) poolB (Nd σ.length Q) (Jd σ.length E Q) [some (.d (.lst (xs.map .int))),some (.d (.int k)),some v,none,none] σ') (wSs Bx (Cl m) poolB (Nd σ.length Q) (Jd σ.length E Q) [some (.d (.lst (xs.map .int))),some (.d (.int k)),some (.d (.int 0)),none,none] σ)
 refine br_k (fun h=>?_) fun _=>fin 0
 have h:=of_decide_eq_true h
 rw [List.length_map] at h
 have X : ∀ j : Nat,j < xs.length→k=(j : Int)→Ok (idxV σ (.d (.lst (xs.map .int))) (.d (.int k))) fun v σ'=>wSs Bx (Cl m) poolB (Nd σ.length Q) (Jd σ.length E Q) [some (.d (.lst (xs.map .int))),some (.d (.int k)),some v,none,none] σ':=fun j hl e=>by
  rw [e] at fin ⊢
  exact idx_dl (by rw [List.getElem?_map,List.getElem?_eq_getElem hl]; rfl) (fin _)
 rcases hk with rfl | rfl
 ·exact X 0 (Int.ofNat_lt.mp h) rfl
 ·exact X 1 (Int.ofNat_lt.mp h) rfl
end
end Mine
namespace Mine
section
variable {n i m k g Z L : Nat} {σ τ : Store} {E : Ke} {Q : Kv} {s : List Nat} {t x : D} {ts ps : List D} {f : Fn}
theorem WX.back' (h : WX f L k s t) (hL : L < 1000000) (hs : sz t < WW) (hn : k + 6≤n) (q : ∀ t',Sp t' t→Q (.d t) σ) : Cl n .lawBack [.fn f,.d (.str s)] σ E Q:=h.el fun ts hl hlen hr=>
 def_k hn rfl fun m hm=>w_read (tl hm) hl (Nat.lt_of_le_of_lt hlen hL) fun rows g=>hr (tr hm) ⟨rows,0,by rw [List.getElem?_append_right (Nat.le_succ _),Nat.succ_sub (Nat.le_refl _),Nat.sub_self]; rfl,get_app,g⟩ fun t' σ' p w u=>w_peek (dl (tl hm) rfl) w rfl fun s=>plain_ok (dl (tl hm) rfl) p hs (zc (u.back.symm ▸ q t' p))
theorem Sp.isbare {t' : D} (h : Sp t' t) (hn : D.dep t + 1≤n) (q : Q (.d (.bool true)) σ) : Cl n .lawIsBare [.d t] σ E Q:=by
 have h1:=h .nil
 clear h
 generalize ha : [t']=a at h1
 generalize hb : [t]=b at h1
 cases h1 with
 | nil=>cases hb
 | leaf h2 _=>cases hb; exact bare_leaf h2 (tl hn) q
 | spot hr _=>cases hb; exact bare_spot ((hr.bare.cons fun hn q=>bare_leaf rfl (tl hn) q).cons fun hn q=>bare_leaf rfl (tl hn) q) hn q
 | row h2 hr _=>cases hb; exact bare_row hr.bare hr.nr (hr.rowH_eq.symm.trans h2) hn q
theorem QQ.whole {w : TL} (h : QQ Z 1 0 k s w t) : WX .readPattern Z k s t:=.of h.tx (by rw [Nat.one_mul]; exact Nat.le_refl _) h.pq.rd rfl
theorem topT : DrawT 157960 60 16 16 3:=
 have v0 : Lv 10 280:=⟨by decide,by decide,by decide⟩
 have v1 : Lv 280 2440:=⟨by decide,by decide,by decide⟩
 have v2 : Lv 2440 19720:=⟨by decide,by decide,by decide⟩
 have v3 : Lv 19720 157960:=⟨by decide,by decide,by decide⟩
 typeS (k:=45) (g:=12) (kk:=12) rfl v3 (typeS (k:=30) (g:=8) (kk:=8) (z:=2) rfl v2 (typeS (k:=15) (g:=4) (kk:=4) (z:=1) rfl v1 (type0 (k:=0) (g:=0) v0)))
theorem topQ : DrawQ 309300 200 24 26 3:=
 have v0 : Lr 420 2400:=⟨by decide,by decide,by decide⟩
 have v1 : Lr 2400 12300:=⟨by decide,by decide,by decide⟩
 have v2 : Lr 12300 61800:=⟨by decide,by decide,by decide⟩
 have v3 : Lr 61800 309300:=⟨by decide,by decide,by decide⟩
 sortS (k:=160) (g:=20) (kk:=19) rfl v3 (by decide) (by decide) (by decide) (sortS (k:=120) (g:=16) (kk:=12) (z:=2) rfl v2 (by decide) (by decide) (by decide) (sortS (k:=80) (g:=12) (kk:=5) (z:=1) rfl v1 (by decide) (by decide) (by decide) (sort0 (k:=40) (g:=8) v0) fun _ _ _ h=>.name0 (k:=40) (g:=8) v0 h) fun _ _ _ h=>.name0 (k:=80) (g:=12) v1 h) fun _ _ _ h=>.name0 (k:=120) (g:=16) v2 h
theorem GG.me (h : GG 280 k 4 t) : t.dep≤64∧sz t≤10000:=by
 have hB : ∀ {b},GB 280 k 4 b→b.dep≤7∧sz b≤1140:=fun h=>by
  cases h with
  | mk h=>exact ⟨dep_t h.me.1,Nat.le_trans (Nat.add_le_add_right h.me.2 2) (by decide)⟩
 have hP : ∀ {p},GPm 280 k 4 p→p.dep≤9∧sz p≤2285:=fun h=>by
  cases h with
  | mk hx hb hl=>exact ⟨dep_t (depA (al1 (Nat.zero_le _) (al1 (dep_t (deps_le fun b h=>(hB (hb b h)).1)) al0))),(by
   have:=Nat.le_trans (szs_le fun b h=>(hB (hb b h)).2) (Nat.mul_le_mul_right _ hl)
   show 1 + ((szs _ + 2) + 0) + 2≤_
   omega)⟩
 cases h with
 | mk hr hrl hp hpl=>exact ⟨Nat.le_trans (dep_t (depA (al1 (dep_t str_dep) (al1 (dep_t (deps_le fun p h=>(hP (hp p h)).1)) al0)))) (by decide),(by
   have:=Nat.le_trans (szs_le fun p h=>(hP (hp p h)).2) (Nat.mul_le_mul_right _ hpl)
   show (szs (List.map D.str _) + 2) + ((szs _ + 2) + 0) + 2≤_
   rw [str_sz]; omega)⟩
theorem al_of {P : D→Prop} : ∀ {ts : List (List Nat)},(∀ s∈ts,P (.str s))→allP P (ts.map .str)
 | [],_=>trivial
 | s :: ts,h=>⟨h s (.head _),al_of fun x hx=>h x (.tail _ hx)⟩
theorem bad_al {ts : List (List Nat)} (h : Bad f ts σ) (q : Q (.d .none) σ) : allP (fun x=>Cl 600 .lawBack [.fn f,.d x] σ E Q) (ts.map .str):=al_of fun s hs=>.e ((List.map_inj_left.mp (h E Q) s hs).symm ▸ q)
theorem bads (h : τ.length=1∨τ.length=2) : Bad .readType badT τ∧Bad .readPattern badP τ∧Bad .readGenerics badG τ:=by
 match τ,h with
 | [],h=>exact absurd h (by decide)
 | [a],_=>exact ⟨bT1 a,bP1 a,bG1 a⟩
 | [a,b],_=>exact ⟨bT2 a b,bP2 a b,bG2 a b⟩
 | _ :: _ :: _ :: _,h=>exact h.elim nofun nofun
end
end Mine
namespace Mine
open PySem.W
noncomputable def lawB : List S:=@List.casesOn S (fun _=>List S) ((F .law).body.drop 2) [] fun s _=>@S.casesOn (fun _=>List S) s (fun _=>[]) (fun _ _=>[]) (fun _ _=>[]) (fun _ _=>[]) (fun _ _=>[]) (fun _ _=>[]) (fun _ _=>[]) (fun _ _=>[]) (fun _ _ _=>[]) (fun _ _ _=>[]) (fun _ _=>[]) (fun _ _ b=>b) (fun _ _=>[]) [] (fun _ _=>[]) (fun _ _ _=>[]) []
noncomputable def innerD : D:=.tup [.str [114,101,102],.int 0,.none,.bool false,.tup [.str [112,97,116,104],.int 0,.tup [.tup [.str [84],.tup [],.tup []]]]]
noncomputable def nev (a b c : Int) : D:=.tup [.str [114,101,102],.int a,.none,.bool true,.tup [.str [112,97,116,104],.int b,.tup [.tup [.str [84],.tup [],.tup [.tup [.str [110,101,118,101,114],.int c]]]]]]
section
variable {n i m k g Z L : Nat} {σ τ : Store} {E : Ke} {Q : Kv} {s : List Nat} {t x : D} {ts ps : List D} {f : Fn} {z : Int} {xs : List Int} {N : Kn} {J : Mine.J} {v4 v5 v6 v7 : Option V}
theorem bAmp (E Q) : ClE 600 .lawBack [.fn .readType,.d (.str [38,38,84])] [] E Q=Q (.d (.tup [.str [114,101,102],.int 0,.none,.bool false,innerD])) []:=by kernel_rfl
theorem pl1 (a : Ent) (E Q) : ClE 600 .plain [.d (nev 9 4 2)] [a] E Q=Q (.d (nev 0 0 0)) [a]:=by kernel_rfl
theorem pl2 (a b : Ent) (E Q) : ClE 600 .plain [.d (nev 9 4 2)] [a,b] E Q=Q (.d (nev 0 0 0)) [a,b]:=by kernel_rfl
theorem pl (h : τ.length=1∨τ.length=2) (q : Q (.d (nev 0 0 0)) τ) : Cl 600 .plain [.d (nev 9 4 2)] τ E Q:=by
 match τ,h with
 | [],h=>exact absurd h (by decide)
 | [a],_=>exact .e ((pl1 a E Q).symm ▸ q)
 | [a,b],_=>exact .e ((pl2 a b E Q).symm ▸ q)
 | _ :: _ :: _ :: _,h=>exact h.elim nofun nofun
theorem upd_len {e : Ent} (h : σ.length≤1) (u : Upd i (σ ++ [e]) τ) : τ.length=1∨τ.length=2:=by
 have:=u.len
 rw [List.length_append] at this
 have : ([e] : Store).length=1:=rfl
 omega
theorem turn1 (hs : Srce σ i) {v0 v1 v2 : Option V} (q : ∀ y4 y5 y6 τ,Upd i σ τ→N [v0,v1,v2,some (.l i),y4,y5,y6,v7] τ) : wSs Bx (Cl 600) ((lawB.drop 1).take 5) N J [v0,v1,v2,some (.l i),v4,v5,v6,v7] σ:=
 topT (by decide) hs fun t σ2 gt u2=>d_params (type0 (k:=0) (g:=0) (Z:=10) (Z':=280) ⟨by decide,by decide,by decide⟩) (by decide) (by decide) u2.src fun p σ3 gp u3=>topQ (by decide) u3.src fun ps σ4 gq u4=>
  gt.wr (by decide) fun s w tx=>tx.whole.back (by decide) (Nat.lt_of_le_of_lt gt.sz (by decide)) (by decide) (cmp_self (Nat.le_trans gt.dep (by decide))
  (gt.lw (by decide) u4.src fun s w σ5 tx u5=>tx.whole.back (by decide) (Nat.lt_of_le_of_lt gt.sz (by decide)) (by decide) (cmp_self (Nat.le_trans gt.dep (by decide))
  (w_generics (Z':=4710) (by decide) (by decide) (by decide) (by decide) (by decide) gp (by decide) (by decide) fun s wx=>wx.back (by decide) (Nat.lt_of_le_of_lt gp.me.2 (by decide)) (by decide) (cmp_self gp.me.1
  (gq.wq (by decide) fun s w qx=>qx.whole.back (by decide) (Nat.lt_of_le_of_lt gq.sz (by decide)) (by decide) (cmp_self (Nat.le_trans gq.dep (by decide))
  (gq.lw (by decide) u5.src fun s w σ6 qx u6=>qx.q.whole.back' (by decide) (Nat.lt_of_le_of_lt gq.sz (by decide)) (by decide) fun t' sp=>cmp_self (Nat.le_trans gq.dep (by decide))
  (sp.isbare (Nat.le_trans (Nat.succ_le_succ gq.dep) (by decide)) (q _ _ _ _ ((((u2.trans u3).trans u4).trans u5).trans u6)))))))))))
theorem law_turn (hk : z=0∨z=1) (hσ : σ.length≤1) {v3 : Option V} (q : ∀ y3 y4 y5 y6 y7 τ,τ.length=σ.length + 1→N [some (.d (.lst (xs.map .int))),some (.d innerD),some (.d (.int z)),y3,y4,y5,y6,y7] τ) :
  wSs Bx (Cl 600) lawB N J [some (.d (.lst (xs.map .int))),some (.d innerD),some (.d (.int z)),v3,v4,v5,v6,v7] σ:=
 w_pool (by decide) hk fun a b h0 h1=>turn1 (N:=wSs Bx (Cl 600) (lawB.drop 6) N J) (.of get_top h0 h1) fun y4 y5 y6 τ u=>
  pl (upd_len hσ u) (w_one (by decide) u.src rfl fun τ1 u1=>bad_al (bads (upd_len hσ (u.trans u1))).1 (w_one (by decide) u1.src rfl fun τ2 u2=>bad_al (bads (upd_len hσ ((u.trans u1).trans u2))).2.1 (w_one (by decide) u2.src rfl fun τ3 u3=>bad_al (bads (upd_len hσ (((u.trans u1).trans u2).trans u3))).2.2
   (q _ _ _ _ _ _ ((((u.trans u1).trans u2).trans u3).len.trans List.length_append)))))
end
end Mine
namespace Mine
theorem plain_law (xs : List Int) : Cl 601 .law [.d (.lst (xs.map .int))] [] No fun v _=>v=.d (.bool true):=by
 refine def_s rfl (.e ((bAmp _ _).symm ▸ ?_))
 have key : ∀ c : Int,(c=1∨c=2)→Ok (if decide (0≤c) && decide (c≤1000000) then .ok (.rng c.toNat) [] else .no) fun x σ=>Op (itemsV σ x) fun ys=>Bx (wFor (wSs Bx (Cl 600) lawB) [2] (wSs Bx (Cl 600) [.ret false (.c (.bool true))] (Nd 0 fun v _=>v=.d (.bool true)) (Jd 0 No fun v _=>v=.d (.bool true))) (Zd 0 fun v _=>v=.d (.bool true)) ys [some (.d (.lst (xs.map .int))),some (.d innerD),none,none,none,none,none,none] σ):=fun c hc=>by
  have fin : ∀ {τ : Store},Zd 0 (fun v _=>v=.d (.bool true)) false (.d (.bool true)) τ:=zc rfl
  rcases hc with rfl | rfl
  ·exact bin_ok rfl ⟨law_turn (.inl rfl) (by decide) fun y3 y4 y5 y6 y7 τ _=>fin⟩
  ·exact bin_ok rfl ⟨law_turn (.inl rfl) (by decide) fun y3 y4 y5 y6 y7 τ h=>law_turn (.inr rfl) (Nat.le_of_eq h) fun z3 z4 z5 z6 z7 τ' _=>fin⟩
 have h2 : ∀ l : Int,(if (if (2 : Int) < l then 2 else l) > 1 then (if (2 : Int) < l then 2 else l) else 1)=1∨(if (if (2 : Int) < l then 2 else l) > 1 then (if (2 : Int) < l then 2 else l) else 1)=2:=fun l=>by
  by_cases h : (2 : Int) < l
  ·rw [if_pos h]; exact .inr rfl
  ·rw [if_neg h]
   by_cases h1 : l > 1
   ·rw [if_pos h1]; exact .inr (by omega)
   ·rw [if_neg h1]; exact .inl rfl
 exact key _ (h2 ((xs.map D.int).length : Int))
end Mine
section
open PySem PySem.W PyProof.Rows
namespace Mine.XX
theorem tw8613012889340816858:True:=⟨⟩
theorem tw9812410208462216945:True:=⟨⟩
theorem tw6772121130724271663:True:=⟨⟩
theorem tw3668920222238636662:True:=⟨⟩
theorem tw17752793108985959156:True:=⟨⟩
theorem tw14153480039633779370:True:=⟨⟩
theorem tw7688445716827456896:True:=⟨⟩
theorem tw10711765177793716900:True:=⟨⟩
theorem tw18385380569513065140:True:=⟨⟩
theorem tw14905564006432401404:True:=⟨⟩
theorem tw4287719679423025547:True:=⟨⟩
theorem tw2020639919410782407:True:=⟨⟩
theorem tw15210594320809940026:True:=⟨⟩
theorem tw12802355435728370987:True:=⟨⟩
theorem tw10527898505177332636:True:=⟨⟩
theorem tw3045463439130756136:True:=⟨⟩
theorem tw12989646375511859028:True:=⟨⟩
theorem tw9951116307130243612:True:=⟨⟩
theorem tw1586086150223384551:True:=⟨⟩
theorem tw5547734539171730381:True:=⟨⟩
theorem tw1142622562825072316:True:=⟨⟩
theorem tw4769475069028714019:True:=⟨⟩
theorem tw11158342906067520769:True:=⟨⟩
theorem tw9934898214025115347:True:=⟨⟩
theorem tw17565351608225565230:True:=⟨⟩
theorem tw2356869309418349967:True:=⟨⟩
theorem tw11258801160452466703:True:=⟨⟩
theorem tw4863709492858100143:True:=⟨⟩
theorem tw12979651288756517684:True:=⟨⟩
theorem tw11796076011239983160:True:=⟨⟩
theorem tw10836815149923771359:True:=⟨⟩
theorem tw13837646865701126098:True:=⟨⟩
theorem tw16239211333676109772:True:=⟨⟩
theorem tw16122610811750265833:True:=⟨⟩
theorem tw18032163819949535389:True:=⟨⟩
theorem tw17808300434237659890:True:=⟨⟩
theorem tw3039538174191823927:True:=⟨⟩
theorem tw7411319917321441001:True:=⟨⟩
theorem tw11771876665205123825:True:=⟨⟩
theorem tw14515196001880518483:True:=⟨⟩
theorem tw18034397133779092212:True:=⟨⟩
theorem tw10482379270310386818:True:=⟨⟩
theorem tw8317105937479483365:True:=⟨⟩
theorem tw2712914769918801727:True:=⟨⟩
theorem tw14106435004849762949:True:=⟨⟩
theorem tw17367834407182662923:True:=⟨⟩
theorem tw832345716928643665:True:=⟨⟩
theorem tw438997771850007731:True:=⟨⟩
theorem tw7106002697234038026:True:=⟨⟩
theorem tw18416816621050742973:True:=⟨⟩
theorem tw15266031098849600022:True:=⟨⟩
theorem tw947142472244839107:True:=⟨⟩
theorem tw10863904481751593504:True:=⟨⟩
theorem tw1933746404048825500:True:=⟨⟩
theorem tw3800179476658231760:True:=⟨⟩
theorem tw6412026487959094405:True:=⟨⟩
theorem tw3837563204774809151:True:=⟨⟩
theorem tw2682464770170270010:True:=⟨⟩
theorem tw4779187954403148349:True:=⟨⟩
theorem tw1073844298392600248:True:=⟨⟩
theorem tw12885217899283059128:True:=⟨⟩
theorem tw6809063220367451422:True:=⟨⟩
theorem tw17983449088105457976:True:=⟨⟩
theorem tw3288433856514120443:True:=⟨⟩
theorem tw12351835852000992759:True:=⟨⟩
theorem tw6882483648633299432:True:=⟨⟩
theorem tw8305403961181169092:True:=⟨⟩
theorem tw4533417040860162073:True:=⟨⟩
theorem tw4907400120229160007:True:=⟨⟩
theorem tw6346526933080607731:True:=⟨⟩
theorem tw5159807124870068857:True:=⟨⟩
theorem tw6110338636286801208:True:=⟨⟩
theorem tw12408513933888405434:True:=⟨⟩
theorem tw1905333442833994331:True:=⟨⟩
theorem tw4923297749651071456:True:=⟨⟩
theorem tw10652421456479689521:True:=⟨⟩
theorem tw4525408631984368467:True:=⟨⟩
theorem tw14731213556331512984:True:=⟨⟩
theorem tw2786270972581764262:True:=⟨⟩
theorem tw5600480303166449721:True:=⟨⟩
theorem tw14416946025871488726:True:=⟨⟩
theorem tw17374575969069427268:True:=⟨⟩
theorem tw6555594045125788067:True:=⟨⟩
theorem tw108980980485789958:True:=⟨⟩
theorem tw13556172200027410475:True:=⟨⟩
theorem tw6343732598563186229:True:=⟨⟩
theorem tw3413895848048847852:True:=⟨⟩
theorem tw28504673298519226:True:=⟨⟩
theorem tw3132376082707083550:True:=⟨⟩
theorem tw15060985732303030392:True:=⟨⟩
theorem tw9553283174384507506:True:=⟨⟩
theorem tw8808096493757832992:True:=⟨⟩
theorem tw2141711202765525285:True:=⟨⟩
theorem tw3494378396378727141:True:=⟨⟩
theorem tw9727841161185508170:True:=⟨⟩
theorem tw16896255826625120435:True:=⟨⟩
theorem tw11550864366921254443:True:=⟨⟩
theorem tw6965849404489192697:True:=⟨⟩
theorem tw10451319952818844340:True:=⟨⟩
theorem tw15586273934753232797:True:=⟨⟩
theorem tw859087617234856405:True:=⟨⟩
theorem tw896721276655109787:True:=⟨⟩
theorem tw18214824146771145963:True:=⟨⟩
theorem tw1284174066905439259:True:=⟨⟩
theorem tw9170228448579267751:True:=⟨⟩
theorem tw8191491318395058273:True:=⟨⟩
theorem tw8842104675337601056:True:=⟨⟩
theorem tw9587954165815819061:True:=⟨⟩
theorem tw12617166236455706333:True:=⟨⟩
theorem tw8038426046575273568:True:=⟨⟩
theorem tw13967725250773753856:True:=⟨⟩
theorem tw12918771920777100644:True:=⟨⟩
theorem tw5768990239957938828:True:=⟨⟩
theorem tw2901379855876255870:True:=⟨⟩
theorem tw17392357722832957356:True:=⟨⟩
theorem tw17392538502335859609:True:=⟨⟩
theorem tw14734915316111816042:True:=⟨⟩
theorem tw6222596008911565944:True:=⟨⟩
theorem tw4270924206587418081:True:=⟨⟩
theorem tw8381762513840878916:True:=⟨⟩
theorem tw7846034954373725281:True:=⟨⟩
theorem tw11089112530016186343:True:=⟨⟩
theorem tw9281800799120370579:True:=⟨⟩
theorem tw3428580571341479546:True:=⟨⟩
theorem tw8274279807096132205:True:=⟨⟩
theorem tw10219583087797295346:True:=⟨⟩
theorem tw13786908502609108322:True:=⟨⟩
theorem tw3624282495404897909:True:=⟨⟩
theorem tw5608633115555071080:True:=⟨⟩
theorem tw9488068021345397197:True:=⟨⟩
theorem tw6794890748341646223:True:=⟨⟩
theorem tw15452477729604745530:True:=⟨⟩
theorem tw14564502913883776419:True:=⟨⟩
theorem tw12267250895200435214:True:=⟨⟩
theorem tw8846984432754834091:True:=⟨⟩
theorem tw13212880128328626174:True:=⟨⟩
theorem tw2876065657042302713:True:=⟨⟩
theorem tw13746362268866809619:True:=⟨⟩
theorem tw11648098608804816077:True:=⟨⟩
theorem tw3927995982155623714:True:=⟨⟩
theorem tw1556700674247664677:True:=⟨⟩
theorem tw17740457121292207931:True:=⟨⟩
theorem tw8470106715331202366:True:=⟨⟩
theorem tw4108938829693006372:True:=⟨⟩
theorem tw4074524764877399404:True:=⟨⟩
theorem tw15886084990166858975:True:=⟨⟩
theorem tw17080008969719523402:True:=⟨⟩
theorem tw4647502384350099758:True:=⟨⟩
theorem tw13240092709775805024:True:=⟨⟩
theorem tw12212510035019469803:True:=⟨⟩
theorem tw14685426879348452310:True:=⟨⟩
theorem tw11094987785062913720:True:=⟨⟩
theorem tw8032677690253992064:True:=⟨⟩
theorem tw2920585497803141698:True:=⟨⟩
theorem tw16873499465602965065:True:=⟨⟩
theorem tw8483885608288702798:True:=⟨⟩
theorem tw2751380760774357272:True:=⟨⟩
theorem tw5300334144677687492:True:=⟨⟩
theorem tw16475504860096890230:True:=⟨⟩
theorem tw281587415742464835:True:=⟨⟩
theorem tw18098196746327389270:True:=⟨⟩
theorem tw11094807080918831615:True:=⟨⟩
theorem tw5450843277914756388:True:=⟨⟩
theorem tw17810098352581906428:True:=⟨⟩
theorem tw7299657341057490126:True:=⟨⟩
theorem tw3123461463779258378:True:=⟨⟩
theorem tw17736958230856169201:True:=⟨⟩
theorem tw9208545767153060262:True:=⟨⟩
theorem tw2298690970554893955:True:=⟨⟩
theorem tw14112609214255404431:True:=⟨⟩
theorem tw13506652072869053524:True:=⟨⟩
theorem tw7262578146382518451:True:=⟨⟩
theorem tw10728989104491157894:True:=⟨⟩
theorem tw602674306847080404:True:=⟨⟩
theorem tw2909893605674846558:True:=⟨⟩
theorem tw16017435951889090078:True:=⟨⟩
theorem tw2630893025901706404:True:=⟨⟩
theorem tw18236971310919820418:True:=⟨⟩
theorem tw4677049101867322634:True:=⟨⟩
theorem tw14376402879309283843:True:=⟨⟩
theorem tw17046609996025943574:True:=⟨⟩
theorem tw7149479636175059661:True:=⟨⟩
theorem tw16872504068753072089:True:=⟨⟩
theorem tw581342400270760796:True:=⟨⟩
theorem tw6697362454969617075:True:=⟨⟩
theorem tw15641802566131724785:True:=⟨⟩
theorem tw5425000040250594963:True:=⟨⟩
theorem tw11036703397650729141:True:=⟨⟩
theorem tw10648032909058355868:True:=⟨⟩
theorem tw4715649212788743066:True:=⟨⟩
theorem tw7957288793868318914:True:=⟨⟩
theorem tw12616433547145554473:True:=⟨⟩
theorem tw12973330556628265560:True:=⟨⟩
theorem tw13932807324528632024:True:=⟨⟩
theorem tw3188406184646295983:True:=⟨⟩
theorem tw1401174398299128771:True:=⟨⟩
theorem tw10244802494015981767:True:=⟨⟩
theorem tw9823429196766857798:True:=⟨⟩
theorem tw6958964294259856684:True:=⟨⟩
theorem tw10144190516953477769:True:=⟨⟩
theorem tw8180836982052989033:True:=⟨⟩
theorem tw5366699227518920640:True:=⟨⟩
theorem tw2923048613296550617:True:=⟨⟩
theorem tw1964643179482534259:True:=⟨⟩
theorem tw11644611196069227255:True:=⟨⟩
theorem tw6278365585456541408:True:=⟨⟩
theorem tw7757073368868043660:True:=⟨⟩
theorem tw8842894913593893120:True:=⟨⟩
theorem tw15212533314566380901:True:=⟨⟩
theorem tw15184090565022189355:True:=⟨⟩
theorem tw12266950325632405384:True:=⟨⟩
theorem tw6489207792515576517:True:=⟨⟩
theorem tw12390529825675788818:True:=⟨⟩
theorem tw7886832612364350538:True:=⟨⟩
theorem tw11976121924473378738:True:=⟨⟩
theorem tw14669900096956157398:True:=⟨⟩
theorem tw5143190306595704386:True:=⟨⟩
theorem tw17860976032941237694:True:=⟨⟩
theorem tw14569212042013611608:True:=⟨⟩
theorem tw13353703438156445909:True:=⟨⟩
theorem tw4777207311212109371:True:=⟨⟩
theorem tw16441402224583019316:True:=⟨⟩
theorem tw11375960098589764445:True:=⟨⟩
theorem tw4610178023591585306:True:=⟨⟩
theorem tw11850549029737591329:True:=⟨⟩
theorem tw5121646193600842009:True:=⟨⟩
theorem tw10685253196753402159:True:=⟨⟩
theorem tw8267888364900427807:True:=⟨⟩
theorem tw5200518832087892057:True:=⟨⟩
theorem tw12776483926643453230:True:=⟨⟩
theorem tw6940603479890141906:True:=⟨⟩
theorem tw10543058995987015598:True:=⟨⟩
theorem tw3172737596608412843:True:=⟨⟩
theorem tw3712564309025278596:True:=⟨⟩
theorem tw1768069234742480514:True:=⟨⟩
theorem tw16663674877249437009:True:=⟨⟩
theorem tw7841105048135611367:True:=⟨⟩
theorem tw17424427800496556629:True:=⟨⟩
theorem tw7710884589562435513:True:=⟨⟩
theorem tw1651993754219500206:True:=⟨⟩
theorem tw466759151701497766:True:=⟨⟩
theorem tw10697868144361389901:True:=⟨⟩
theorem tw6850786234148008558:True:=⟨⟩
theorem tw6653544566840222802:True:=⟨⟩
theorem tw7520463873191819193:True:=⟨⟩
theorem tw3650488133991830618:True:=⟨⟩
theorem tw10761938912522636348:True:=⟨⟩
theorem tw13910661478362919197:True:=⟨⟩
theorem tw331282025702332:True:=⟨⟩
theorem tw6471790327937693035:True:=⟨⟩
theorem tw1526701799661021546:True:=⟨⟩
theorem tw12976112192570974030:True:=⟨⟩
theorem tw4749362613854003180:True:=⟨⟩
theorem tw16371463963057528197:True:=⟨⟩
theorem tw187924143679232862:True:=⟨⟩
theorem tw5034046673970037460:True:=⟨⟩
theorem tw5121070301137325977:True:=⟨⟩
theorem tw5181179995348360194:True:=⟨⟩
theorem tw2624972308818092839:True:=⟨⟩
theorem tw10805311978190656271:True:=⟨⟩
theorem tw5519865146142041675:True:=⟨⟩
theorem tw3174090168745740270:True:=⟨⟩
theorem tw14862977389370920908:True:=⟨⟩
theorem tw17053390607584140470:True:=⟨⟩
theorem tw5577326086165173337:True:=⟨⟩
theorem tw14566878948016346138:True:=⟨⟩
theorem tw17529437107875941381:True:=⟨⟩
theorem tw17634663329231727867:True:=⟨⟩
theorem tw15757958538814604462:True:=⟨⟩
theorem tw15334067981124535720:True:=⟨⟩
theorem tw3103026751898168713:True:=⟨⟩
theorem tw4493040851978983784:True:=⟨⟩
theorem tw7427631038449738689:True:=⟨⟩
theorem tw7334022333762589991:True:=⟨⟩
theorem tw16769348573051435529:True:=⟨⟩
theorem tw5207543731989122811:True:=⟨⟩
theorem tw3027989177386775800:True:=⟨⟩
theorem tw1728772540364194000:True:=⟨⟩
theorem tw8895188516065253716:True:=⟨⟩
theorem tw1335830043635080258:True:=⟨⟩
theorem tw310696760204421526:True:=⟨⟩
theorem tw18412039263771012394:True:=⟨⟩
theorem tw3001042606675644200:True:=⟨⟩
theorem tw9341567283312636988:True:=⟨⟩
theorem tw8486560303152132972:True:=⟨⟩
theorem tw17652999471161473504:True:=⟨⟩
theorem tw12924682488619706734:True:=⟨⟩
theorem tw14580020471144495723:True:=⟨⟩
theorem tw4568129036894830539:True:=⟨⟩
theorem tw1894024804039256404:True:=⟨⟩
theorem tw2066915673803317306:True:=⟨⟩
theorem tw6362471347826301991:True:=⟨⟩
theorem tw7472671729285166612:True:=⟨⟩
theorem tw7674469682028006992:True:=⟨⟩
theorem tw7375967877830709747:True:=⟨⟩
theorem tw11412006462557094948:True:=⟨⟩
theorem tw3062559186144188838:True:=⟨⟩
theorem tw6211450055228045109:True:=⟨⟩
theorem tw14063985445525707978:True:=⟨⟩
theorem tw9490274336169251131:True:=⟨⟩
theorem tw17973465870845127041:True:=⟨⟩
theorem tw17861529444050891061:True:=⟨⟩
theorem tw16844384613105651499:True:=⟨⟩
theorem tw16911024737717189200:True:=⟨⟩
theorem tw1956096382071313229:True:=⟨⟩
theorem tw12383773765567635638:True:=⟨⟩
theorem tw7625090903951674377:True:=⟨⟩
theorem tw17332619222787656466:True:=⟨⟩
theorem tw4692804743479841645:True:=⟨⟩
theorem tw44539130569949123:True:=⟨⟩
theorem tw218876429279081328:True:=⟨⟩
theorem tw12582917501616647057:True:=⟨⟩
theorem tw15256723673357249200:True:=⟨⟩
theorem tw11649202710870531064:True:=⟨⟩
theorem tw15071534592501257735:True:=⟨⟩
theorem tw13615005832647443902:True:=⟨⟩
theorem tw15571026327668410496:True:=⟨⟩
theorem tw7621822099529996476:True:=⟨⟩
theorem tw8632307299274721816:True:=⟨⟩
theorem tw6079661770607508054:True:=⟨⟩
theorem tw17929944684948774997:True:=⟨⟩
theorem tw1631158142487323258:True:=⟨⟩
theorem tw3783638554479791564:True:=⟨⟩
theorem tw4223911822014917696:True:=⟨⟩
theorem tw16992105973523002670:True:=⟨⟩
theorem tw12635750350558340759:True:=⟨⟩
theorem tw17526388643962661629:True:=⟨⟩
theorem tw3668352708206257396:True:=⟨⟩
theorem tw7513024900872760239:True:=⟨⟩
theorem tw1465880190197190248:True:=⟨⟩
theorem tw8900928244193427095:True:=⟨⟩
theorem tw15734756970973231021:True:=⟨⟩
theorem tw14341425286210635420:True:=⟨⟩
theorem tw4079656079030045839:True:=⟨⟩
theorem tw12216378403124720555:True:=⟨⟩
theorem tw4539310689482540194:True:=⟨⟩
theorem tw9982006415089906239:True:=⟨⟩
theorem tw5458942037261652398:True:=⟨⟩
theorem tw12122323148440869106:True:=⟨⟩
theorem tw6756915212293383006:True:=⟨⟩
theorem tw15088331727043463692:True:=⟨⟩
theorem tw798659269690752421:True:=⟨⟩
theorem tw17993499540214364876:True:=⟨⟩
theorem tw887395097425669199:True:=⟨⟩
theorem tw17858735565715613911:True:=⟨⟩
theorem tw7507864088843401288:True:=⟨⟩
theorem tw154425987068512730:True:=⟨⟩
theorem tw10504534339425197110:True:=⟨⟩
theorem tw5197508699092733782:True:=⟨⟩
theorem tw15295824245601673786:True:=⟨⟩
theorem tw10878895065796310232:True:=⟨⟩
theorem tw10675103625922084913:True:=⟨⟩
theorem tw16759422394405726893:True:=⟨⟩
theorem tw12771951377620400978:True:=⟨⟩
theorem tw15558872722619285635:True:=⟨⟩
theorem tw12980444326591109329:True:=⟨⟩
theorem tw13671584250955244419:True:=⟨⟩
theorem tw13756404552045952538:True:=⟨⟩
theorem tw6247166370208917673:True:=⟨⟩
theorem tw4674932205380848738:True:=⟨⟩
theorem tw2051035871820603873:True:=⟨⟩
theorem tw16527717690428958187:True:=⟨⟩
theorem tw10796463108198938267:True:=⟨⟩
theorem tw3718403273632737552:True:=⟨⟩
theorem tw9058495804436126377:True:=⟨⟩
theorem tw4907546062172549060:True:=⟨⟩
theorem tw5973861922053507803:True:=⟨⟩
theorem tw7219030650904951886:True:=⟨⟩
theorem tw10713353364522528706:True:=⟨⟩
theorem tw74302225904180672:True:=⟨⟩
theorem tw12217381773573412073:True:=⟨⟩
theorem tw2748058766457872084:True:=⟨⟩
theorem tw12475224217408257081:True:=⟨⟩
theorem tw107401262538259510:True:=⟨⟩
theorem tw13695169607841661934:True:=⟨⟩
theorem tw18402898293009375821:True:=⟨⟩
theorem tw2408530716605793898:True:=⟨⟩
theorem tw8686018870587375363:True:=⟨⟩
theorem tw10697855949701801325:True:=⟨⟩
theorem tw18067579614534800689:True:=⟨⟩
theorem tw2464491568536764119:True:=⟨⟩
theorem tw10986426063841565040:True:=⟨⟩
theorem tw2474169360918870748:True:=⟨⟩
theorem tw1855753327414145434:True:=⟨⟩
theorem tw4836863039390894393:True:=⟨⟩
theorem tw13070677598510765089:True:=⟨⟩
theorem tw17223186188560578618:True:=⟨⟩
theorem tw3754359252092361827:True:=⟨⟩
theorem tw10841017252055606535:True:=⟨⟩
theorem tw1312508645220930874:True:=⟨⟩
theorem tw6541896890207073863:True:=⟨⟩
theorem tw7689901304082728787:True:=⟨⟩
theorem tw4119573680576695439:True:=⟨⟩
theorem tw13226742221242400820:True:=⟨⟩
theorem tw852212185067720076:True:=⟨⟩
theorem tw307879556581432929:True:=⟨⟩
theorem tw577724451114701201:True:=⟨⟩
theorem tw6326809466618723462:True:=⟨⟩
theorem tw14091649953744139622:True:=⟨⟩
theorem tw7718062229995197628:True:=⟨⟩
theorem tw7726786644612579631:True:=⟨⟩
theorem tw8017026162686459468:True:=⟨⟩
theorem tw5091493483752447324:True:=⟨⟩
theorem tw11668893711761590451:True:=⟨⟩
theorem tw4847845097374452551:True:=⟨⟩
theorem tw9742851179227903539:True:=⟨⟩
theorem tw7658834217476991935:True:=⟨⟩
theorem tw11731301798641255713:True:=⟨⟩
theorem tw6686635083504607602:True:=⟨⟩
theorem tw978814036012661336:True:=⟨⟩
theorem tw11913742687066726430:True:=⟨⟩
theorem tw9531202579511678090:True:=⟨⟩
theorem tw13389878631744976653:True:=⟨⟩
theorem tw13975962365989978673:True:=⟨⟩
theorem tw17384208208713118755:True:=⟨⟩
theorem tw16376453130275089967:True:=⟨⟩
theorem tw2968232592244142165:True:=⟨⟩
theorem tw281106882610134510:True:=⟨⟩
theorem tw5684469180806632034:True:=⟨⟩
theorem tw8149164345140417244:True:=⟨⟩
theorem tw14422804862919941500:True:=⟨⟩
theorem tw5681958761349532722:True:=⟨⟩
theorem tw9339341842961223625:True:=⟨⟩
theorem tw15891323081779196334:True:=⟨⟩
theorem tw1696374928285752357:True:=⟨⟩
theorem tw5901109077035992521:True:=⟨⟩
theorem tw1621230383978699321:True:=⟨⟩
theorem tw13844842925193305096:True:=⟨⟩
theorem tw18165618848551382523:True:=⟨⟩
theorem tw9400721877530929661:True:=⟨⟩
theorem tw1007184479614112220:True:=⟨⟩
theorem tw7307581824072353938:True:=⟨⟩
theorem tw7684128906794387448:True:=⟨⟩
theorem tw6474687207338814141:True:=⟨⟩
theorem tw8786181168129768729:True:=⟨⟩
theorem tw2312312757980931030:True:=⟨⟩
theorem tw10108105191861868037:True:=⟨⟩
theorem tw13924900206891079951:True:=⟨⟩
theorem tw13556124043025195032:True:=⟨⟩
theorem tw4166620790853822787:True:=⟨⟩
theorem tw17940764780310021657:True:=⟨⟩
theorem tw6160014199892331609:True:=⟨⟩
theorem tw10252825412416541275:True:=⟨⟩
theorem tw5636042910290568035:True:=⟨⟩
theorem tw12445525699963633286:True:=⟨⟩
theorem tw6964891247087399731:True:=⟨⟩
theorem tw10141656414739323211:True:=⟨⟩
theorem tw1613877852283805014:True:=⟨⟩
theorem tw11789652046212152725:True:=⟨⟩
theorem tw5757543916581700049:True:=⟨⟩
theorem tw966842810857153053:True:=⟨⟩
theorem tw16074017526530196374:True:=⟨⟩
theorem tw9170608513015139419:True:=⟨⟩
theorem tw7537745485748202833:True:=⟨⟩
theorem tw14904009208996702752:True:=⟨⟩
theorem tw6020070803907259760:True:=⟨⟩
theorem tw13670494794385670285:True:=⟨⟩
theorem tw13643481613609700950:True:=⟨⟩
theorem tw3358291614437369028:True:=⟨⟩
theorem tw2662928575896577161:True:=⟨⟩
theorem tw6230852090474079286:True:=⟨⟩
theorem tw15789061343316853836:True:=⟨⟩
theorem tw5279648018857724623:True:=⟨⟩
theorem tw9452491419555450020:True:=⟨⟩
theorem tw12435542506130868202:True:=⟨⟩
theorem tw12213098407997567518:True:=⟨⟩
theorem tw18055358536565758387:True:=⟨⟩
theorem tw7335600243225376197:True:=⟨⟩
theorem tw17453253752395899:True:=⟨⟩
theorem tw15229580555694030196:True:=⟨⟩
theorem tw10585249347351012104:True:=⟨⟩
theorem tw8235017543634145457:True:=⟨⟩
theorem tw15773243204986792362:True:=⟨⟩
theorem tw6156615088836568024:True:=⟨⟩
theorem tw2200881553040590012:True:=⟨⟩
theorem tw11255813717646741363:True:=⟨⟩
theorem tw10772409689235649163:True:=⟨⟩
theorem tw12969655860943163605:True:=⟨⟩
theorem tw17375052231446052338:True:=⟨⟩
theorem tw16170016988193888547:True:=⟨⟩
theorem tw12601196111862064455:True:=⟨⟩
theorem tw15682284465089964529:True:=⟨⟩
theorem tw5176571324823847599:True:=⟨⟩
theorem tw7596853160604091128:True:=⟨⟩
theorem tw14058635192431541674:True:=⟨⟩
theorem tw9504123063816573376:True:=⟨⟩
theorem tw5813614314026179664:True:=⟨⟩
theorem tw5553961103674666326:True:=⟨⟩
theorem tw10746233100418488066:True:=⟨⟩
theorem tw1416963152858597368:True:=⟨⟩
theorem tw14804365869724006988:True:=⟨⟩
theorem tw9736096309598039597:True:=⟨⟩
theorem tw13975119513183404271:True:=⟨⟩
theorem tw10343284791217943165:True:=⟨⟩
theorem tw6840238859681836695:True:=⟨⟩
theorem tw3746463654470467934:True:=⟨⟩
theorem tw17545108969558776110:True:=⟨⟩
theorem tw9324864507219233158:True:=⟨⟩
theorem tw13598486016557113755:True:=⟨⟩
theorem tw12476556291650053452:True:=⟨⟩
theorem tw13226397538536574991:True:=⟨⟩
theorem tw11001966452376973539:True:=⟨⟩
theorem tw12259398311249507802:True:=⟨⟩
theorem tw6444492746851340267:True:=⟨⟩
theorem tw14210913652468323408:True:=⟨⟩
theorem tw4015657367494228218:True:=⟨⟩
theorem tw6656343665671222614:True:=⟨⟩
theorem tw4048886630413584139:True:=⟨⟩
theorem tw6674230934774230463:True:=⟨⟩
theorem tw17604735751016176423:True:=⟨⟩
theorem tw17106065914250072388:True:=⟨⟩
theorem tw8864062606356456213:True:=⟨⟩
theorem tw5843316420287052767:True:=⟨⟩
theorem tw7451698377644048691:True:=⟨⟩
end Mine.XX
namespace Mine
set_option Elab.async true
set_option maxHeartbeats 0 in
theorem XX (hP : True) : PySem.Challenge.rw_nu0385_01.Holds:=by
 w_on; o_law; k_head; (case hw=>w_witness2)
 intro w s₀ s₁ mg mb G Y a o pm cd doc dV kV ho hdd hcd hD hmg hg args vals as hpre hlay hrd hwl hlo
 have KX:=kIn_of Y
 have hmg : mg "law"=some (.ref a):=hmg
 have T:=G.T
 clear hdd hcd hD ho Y G
 wrow_args hpre hlay hrd hwl hlo
 rename_i h63 _
 have h63:=Int.not_lt.mp h63
 refine law_walk (mg:=mg) (mb:=mb) (plain_law _) KX T.g T.b T.nolimit T.nodigits T.builtins ?ko ?ch ?nm hmg (by assumption) (by assumption) (by exact_mod_cast h63) fun h' tk hk=>?fin
 case fin=>
  refine ⟨.inl ⟨.bool true,.bool true,[],rfl,?nr,.bool true,?post,fun _=>⟨.nil,fun a h=>by cases h⟩⟩,.of_keep hk,rfl,?gens⟩
  case gens=>show AllBare s₁.gens; exact .of_eq hg
  case nr=>exact raisesW_false allW_false_nil
  case post=>wrow_post
 case nm=>kernel_rfl
 case ch=>intro f; cases f <;> kernel_rfl
 case ko=>
  refine ⟨?_,?_,?_,?_,?_,?_,?_,?_,?_⟩
  case refine_7=>intro f; cases f <;> kernel_rfl
  all_goals kernel_rfl
set_option Elab.async false
end Mine
end
theorem PySem.Challenge.cw_nu0385_01_holds : PySem.Challenge.rw_nu0385_01.Holds :=
 Mine.XX True.intro
