import PyProof.Rows.All
import Wide.All
import OpenK.AllK
import Wide.FinOn
import KE.BytesMake
import Lean
import PySem.Challenge.RW_nn0140_01
set_option linter.all false
set_option maxRecDepth 1000000
set_option Elab.async false
set_option tactic.hygienic false
section
open PySem PySem.Spec
namespace Mine
theorem subOf {α : Type} {P : α → Prop} {o : Option {p : α // P p}} {p : α} (h : o.map (·.1) = some p) : P p := (Option.map_eq_some_iff.mp h).elim fun a e => e.2 ▸ a.2
theorem mapS {α β : Type} {f : α → β} {o : Option α} {b : β} (h : o.map f = some b) : ∃ a, o = some a ∧ f a = b := Option.map_eq_some_iff.mp h
theorem bndS {α β : Type} {f : α → Option β} {o : Option α} {b : β} (h : o.bind f = some b) : ∃ a, o = some a ∧ f a = some b := Option.bind_eq_some_iff.mp h
theorem andS {a b : Bool} (h : (a && b) = true) : a = true ∧ b = true := Bool.and_eq_true_iff.mp h
theorem ltl {n m k : Nat} (h : n < m) (h2 : m ≤ k) : n < k := Nat.lt_of_lt_of_le h h2
theorem lbr {a b : Nat} (h : Nat.ble a b = true) : a ≤ b := Nat.le_of_ble_eq_true h
theorem odt {p : Prop} [Decidable p] (h : decide p = true) : p := of_decide_eq_true h
theorem nmn {α : Type} {a : α} : ¬ a ∈ ([] : List α) := List.not_mem_nil
theorem lts (n : Nat) : n < n + 1 := Nat.lt_succ_self n
theorem lApp {α : Type} {a b : List α} : (a ++ b).length = a.length + b.length := List.length_append
theorem nfC {C : Prop} (h : false = true) : C := Bool.noConfusion h
theorem ntC {C : Prop} (h : true = false) : C := Bool.noConfusion h
theorem noC {α : Type} {a : α} {C : Prop} (h : none = some a) : C := Option.noConfusion rfl (heq_of_eq h)
theorem nsC {α : Type} {a : α} {C : Prop} (h : some a = none) : C := Option.noConfusion rfl (heq_of_eq h)
theorem oeC {α β : Type} {a : α} {b : β} {C : Prop} (h : (Except.ok a : Except β α) = .error b) : C := Except.noConfusion rfl rfl (heq_of_eq h)
theorem inj1 {α : Type} {a b : α} (h : some a = some b) : a = b := Option.some.inj h
theorem inj2 {α β : Type} {a a' : α} {b b' : β} (h : some (a, b) = some (a', b')) : a = a' ∧ b = b' := Prod.mk.inj (Option.some.inj h)
theorem injO {α β : Type} {a a' : α} (h : (Except.ok a : Except β α) = .ok a') : a = a' := Except.ok.inj h
inductive V where
 | nil
 | bool (b : Bool)
 | int (i : Int)
 | str (s : Str)
 | bytes (l : List Nat)
 | obj (c : Nat) (fs : List V)
 | tup (xs : List V)
 | lst (xs : List V)
 | rng (a b s : Int)
 | ref (i : Nat)
inductive DK where
 | s (x : Str)
 | i (n : Int)
 | p (a b : Int)
 deriving DecidableEq
inductive Ob where
 | list (xs : List V)
 | dict (es : List (DK × V))
 | ldict (es : List (DK × V))
 | inst (c : Nat) (fs : List V)
 | gone
structure St where
 n : Nat
 f : Nat → Ob
abbrev M (α : Type) := St → Option (Except Nat α × St)
namespace M
noncomputable def pure {α : Type} (a : α) : M α := fun st => some (.ok a, st)
noncomputable def bind {α β : Type} (m : M α) (f : α → M β) : M β := fun st => match m st with
 | some (.ok a, st') => f a st'
 | some (.error c, st') => some (.error c, st')
 | none => none
noncomputable def fail {α : Type} : M α := fun _ => none
noncomputable def throw {α : Type} (c : Nat) : M α := fun st => some (.error c, st)
end M
noncomputable def onO {α β : Type} (o : Option α) (k : α → M β) : M β := match o with | some x => k x | none => M.fail
noncomputable def onP {β : Type} (p : Prop) [Decidable p] (m : M β) : M β := if p then m else M.fail
noncomputable def St.set (st : St) (i : Nat) (o : Ob) : St := ⟨st.n, fun j => if j = i then o else st.f j⟩
noncomputable def St.push (st : St) (o : Ob) : St := ⟨st.n + 1, fun j => if j = st.n then o else st.f j⟩
noncomputable def mPush (o : Ob) : M V := fun st => some (.ok (.ref st.n), st.push o)
set_option genInjectivity false in
inductive Ty where
 | bool | int | list | dict | cls (a : Addr)
inductive BI where
 | lenB | lenL | range1 | range3 | abs | sum | sortL | sortDI | sortDS | str | dict | tuple | bytesB | bytesL | ord | chr | listT
inductive Op where
 | add | sub | mul | fdiv | mod | pow | addS | mulS | addB | addT | addL
inductive CK where
 | eqI | lt | le | eqS | sameT | sameL | ints | isNone | inT | inL | inD
inductive IK where
 | tup | lst | byt | dct
inductive FK where
 | lst | str | byt | rng | dct
inductive MK where
 | get1 | get2 | append | pop | index | join | count | starts
set_option genSizeOf false
set_option genInjectivity false
mutual
inductive E where
 | dead
 | lit (v : V)
 | loc (x : Nat)
 | up (x : Nat)
 | attr (e : E) (f : Nat)
 | idx (k : IK) (e i : E)
 | pre (e n : E)
 | bin (o : Op) (a b : E)
 | cmp (k : CK) (neg : Bool) (a b : E)
 | cmp2 (k1 k2 : CK) (a b c : E)
 | and (es : Es)
 | or (es : Es)
 | not (e : E)
 | neg (e : E)
 | ite (c a b : E)
 | lst (es : Es)
 | tup (es : Es)
 | dct (ks : List DK) (vs : Es)
 | comp (k : FK) (elt : E) (tg : List Nat) (it : E) (cond : Option E)
 | callF (f : Addr) (args : Es)
 | new (c : Nat) (args : Es)
 | callO (c m : Nat) (o : E) (args : Es)
 | callB (m : MK) (o : E) (args : Es)
 | isin (e : E) (t : Ty)
 | bi (b : BI) (args : Es)
inductive Es where
 | nil
 | cons (e : E) (r : Es)
end
mutual
inductive S where
 | dead
 | asg (x : Nat) (e : E)
 | asg2 (x y : Nat) (e : E)
 | asgAttr (o : E) (f : Nat) (e : E)
 | asgIdx (k : IK) (o i e : E)
 | ex (e : E)
 | ife (c : E) (a b : Ss)
 | whl (c : E) (b : Ss)
 | for1 (k : FK) (x : Nat) (it : E) (b : Ss)
 | ret (e : E)
 | brk
 | raise (c : Nat)
 | tryx (x : Option Nat) (e : E) (b : Ss) (c : Nat) (h : Ss)
inductive Ss where
 | nil
 | cons (s : S) (r : Ss)
end
inductive Fl where
 | next | brk | ret (v : V)
noncomputable def V.isNil : V → Bool | .nil => true | _ => false
noncomputable def V.bool? : V → Option Bool | .bool b => some b | _ => none
noncomputable def V.int? : V → Option Int | .int i => some i | _ => none
noncomputable def V.str? : V → Option Str | .str i => some i | _ => none
noncomputable def V.bytes? : V → Option (List Nat) | .bytes i => some i | _ => none
noncomputable def V.obj? : V → Option (Nat × List V) | .obj c fs => some (c, fs) | _ => none
noncomputable def V.tup? : V → Option (List V) | .tup i => some i | _ => none
noncomputable def V.lst? : V → Option (List V) | .lst i => some i | _ => none
noncomputable def V.rng? : V → Option (Int × Int × Int) | .rng a b s => some (a, b, s) | _ => none
noncomputable def V.ref? : V → Option Nat | .ref i => some i | _ => none
noncomputable def Ob.list? : Ob → Option (List V) | .list xs => some xs | _ => none
noncomputable def Ob.dict? : Ob → Option (List (DK × V)) | .dict xs => some xs | _ => none
noncomputable def Ob.ldict? : Ob → Option (List (DK × V)) | .ldict xs => some xs | _ => none
noncomputable def Ob.inst? : Ob → Option (Nat × List V) | .inst c fs => some (c, fs) | _ => none
noncomputable def one {α : Type} : List α → Option α | [a] => some a | _ => none
noncomputable def two {α : Type} : List α → Option (α × α) | [a, b] => some (a, b) | _ => none
noncomputable def three {α : Type} : List α → Option (α × α × α) | [a, b, c] => some (a, b, c) | _ => none
noncomputable def both {α β : Type} (f : α → β → Bool) : Option α → Option β → Bool | some x, some y => f x y | _, _ => false
noncomputable def eqo {α : Type} [DecidableEq α] : Option α → Option α → Bool := both fun x y => decide (x = y)
noncomputable def allOf {α : Type} (f : V → Option α) : List V → Option (List α)
 | [] => some []
 | v :: r => (f v).bind fun x => (allOf f r).map (x :: ·)
noncomputable abbrev intsOf : List V → Option (List Int) := allOf V.int?
noncomputable abbrev strsOf : List V → Option (List Str) := allOf V.str?
noncomputable def pairOf (v : V) : Option (Str × V) := v.tup?.bind fun xs => (two xs).bind fun p => p.1.str?.map fun k => (k, p.2)
/- the classes: 0 Name, 1 String, 2 Reference, 3 Heading, 4 Shelf, 5 OutlineLook -/
noncomputable def clsAddr (c : Nat) : Addr := [183, 205, 254, 384, 363, 560].getD c 0
noncomputable def initAddr (c : Nat) : Addr := [180, 202, 244, 381, 292, 529].getD c 0
noncomputable def fieldsOf (c : Nat) : List Nat := [[0], [1, 2], [3, 4], [7, 8, 9, 10], [5, 6], [11, 12, 13]].getD c []
noncomputable def meths : List (Nat × Nat × Addr) := [(2, 0, 251), (4, 1, 299), (4, 2, 306), (4, 3, 327), (4, 4, 334), (4, 5, 348), (4, 6, 355), (5, 7, 536), (5, 8, 543), (5, 9, 550), (5, 10, 557)]
noncomputable def methOf (c m : Nat) : Option Addr := (meths.find? fun p => p.1 == c && p.2.1 == m).map (·.2.2)
noncomputable def V.toKey (v : V) : Option DK := match v.str? with
 | some s => some (.s s)
 | none => match v.int? with
  | some i => some (.i i)
  | none => v.tup?.bind fun xs => (two xs).bind fun p => p.1.int?.bind fun a => p.2.int?.map fun b => .p a b
noncomputable def DK.toV : DK → V
 | .s x => .str x
 | .i n => .int n
 | .p a b => .tup [.int a, .int b]
noncomputable def DK.kind : DK → Nat | .s _ => 0 | .i _ => 1 | .p _ _ => 2
noncomputable def sameKind (k : DK) (es : List (DK × V)) : Bool := es.all fun e => e.1.kind == k.kind
noncomputable def dGet (es : List (DK × V)) (k : DK) : Option V := (es.find? fun e => decide (e.1 = k)).map (·.2)
noncomputable def dSet (es : List (DK × V)) (k : DK) (v : V) : List (DK × V) :=
 if es.any (fun e => decide (e.1 = k)) then es.map (fun e => if e.1 = k then (e.1, v) else e) else es ++ [(k, v)]
noncomputable def allTwo (f : V → V → Bool) : List V → List V → Bool
 | [], [] => true
 | a :: r, b :: t => f a b && allTwo f r t
 | _, _ => false
noncomputable def same : Nat → V → V → Bool
 | 0, _, _ => false
 | n + 1, a, b => (a.isNil && b.isNil) || eqo a.bool? b.bool? || eqo a.int? b.int? || eqo a.str? b.str? || eqo a.bytes? b.bytes? || both (allTwo (same n)) a.tup? b.tup?
noncomputable abbrev sames : List V → List V → Bool := allTwo (same 12)
noncomputable def slotOf (st : St) (v : V) : Option (Nat × Ob) := v.ref?.map fun i => (i, st.f i)
noncomputable def listOf (st : St) (v : V) : Option (List V) := match v.lst? with
 | some xs => some xs
 | none => (slotOf st v).bind fun p => p.2.list?
noncomputable def dictAt (st : St) (v : V) : Option (Nat × List (DK × V)) := (slotOf st v).bind fun p => p.2.dict?.map fun es => (p.1, es)
noncomputable def dictR (st : St) (v : V) : Option (Nat × List (DK × V)) := (slotOf st v).bind fun p => (p.2.dict?.or p.2.ldict?).map fun es => (p.1, es)
noncomputable def instAt (st : St) (v : V) : Option (Nat × Nat × List V) := (slotOf st v).bind fun p => p.2.inst?.map fun q => (p.1, q)
noncomputable def onL {β : Type} (v : V) (k : List V → M β) : M β := fun st => onO (listOf st v) k st
noncomputable def onK {β : Type} (v k : V) (g : List (DK × V) → DK → M β) : M β := fun st => onO (dictR st v) (fun p => onO k.toKey fun dk => onP (sameKind dk p.2 = true) (g p.2 dk)) st
noncomputable def onI2 (a b : V) (k : Int → Int → M V) : M V := onO a.int? fun x => onO b.int? fun y => k x y
noncomputable def opV (o : Op) (a b : V) : M V := match o with
 | .add => onI2 a b fun x y => .pure (.int (x + y))
 | .sub => onI2 a b fun x y => .pure (.int (x - y))
 | .mul => onI2 a b fun x y => onP (x.natAbs < 2 ^ 62) (.pure (.int (x * y)))
 | .fdiv => onI2 a b fun x y => onP (0 < y ∧ y < 1073741824) (.pure (.int (x.fdiv y)))
 | .mod => onI2 a b fun x y => onP (0 < y) (.pure (.int (x.fmod y)))
 | .pow => onI2 a b fun x y => onP (x = 10 ∧ y = 80) (.pure (.int (10 ^ 80)))
 | .addS => onO a.str? fun x => onO b.str? fun y => onP (x.length + y.length ≤ 10000000) (.pure (.str (x ++ y)))
 | .mulS => onO a.str? fun x => onO b.int? fun y => onP (x.length ≤ 1000 ∧ 0 ≤ y ∧ y ≤ 1000) (.pure (.str (Txt.mul x y)))
 | .addB => onO a.bytes? fun x => onO b.bytes? fun y => onP (x.length + y.length ≤ 10000000) (.pure (.bytes (x ++ y)))
 | .addT => onO a.tup? fun x => onO b.tup? fun y => onP (x.length + y.length ≤ 10000000) (.pure (.tup (x ++ y)))
 | .addL => onL a fun x => onL b fun y => onP (x.length + y.length ≤ 10000000) (mPush (.list (x ++ y)))
noncomputable def nb (neg r : Bool) : Bool := if neg then !r else r
noncomputable def cmpV (k : CK) (neg : Bool) (a b : V) : M Bool := match k with
 | .eqI => onO a.int? fun x => onO b.int? fun y => .pure (nb neg (decide (x = y)))
 | .lt => onO a.int? fun x => onO b.int? fun y => .pure (nb neg (decide (x < y)))
 | .le => onO a.int? fun x => onO b.int? fun y => .pure (nb neg (decide (x ≤ y)))
 | .eqS => onO a.str? fun x => onO b.str? fun y => .pure (nb neg (decide (x = y)))
 | .sameT => onO a.tup? fun x => onO b.tup? fun y => onP (sames x y = true) (.pure (nb neg true))
 | .sameL => onL a fun x => onL b fun y => onP (sames x y = true) (.pure (nb neg true))
 | .ints => onL a fun x => onL b fun y => onO (intsOf x) fun i => onO (intsOf y) fun j => .pure (nb neg (decide (i = j)))
 | .isNone => onP (b.isNil = true) (.pure (nb neg a.isNil))
 | .inT => onO a.int? fun x => onO b.tup? fun ys => onO (intsOf ys) fun l => .pure (nb neg (l.contains x))
 | .inL => onO a.int? fun x => onL b fun ys => onO (intsOf ys) fun l => .pure (nb neg (l.contains x))
 | .inD => onK b a fun es dk => .pure (nb neg (dGet es dk).isSome)
abbrev Loc := Nat → Option V
noncomputable def Loc.put (l : Loc) (x : Nat) (v : V) : Loc := fun y => if y = x then some v else l y
noncomputable def Loc.none : Loc := fun _ => Option.none
noncomputable def fuelW : Nat := 4000
noncomputable def bits8 (l : List Int) : Bool := l.all fun i => decide (0 ≤ i ∧ i < 256)
noncomputable def ldictAt (st : St) (v : V) : Option (List (DK × V)) := (slotOf st v).bind fun p => p.2.ldict?
noncomputable def nextV (st : St) (k : FK) (v : V) (i : Nat) : Option (Option V) := match k with
 | .lst => (listOf st v).map fun xs => xs[i]?
 | .str => v.str?.map fun s => s.cps[i]?.map fun c => .str ⟨#[c]⟩
 | .byt => v.bytes?.map fun l => l[i]?.map fun (b : Nat) => .int b
 | .rng => v.rng?.map fun p => if p.1 + (i : Int) * p.2.2 < p.2.1 then some (.int (p.1 + (i : Int) * p.2.2)) else Option.none
 | .dct => (ldictAt st v).bind fun es => if es.all (fun e => e.1.kind == 1) then some (es[i]?.map fun e => e.1.toV) else Option.none
noncomputable def lockV (k : FK) (v : V) : M Unit := match k with
 | .lst => onL v fun _ => .pure ()
 | .str => onO v.str? fun _ => .pure ()
 | .byt => onO v.bytes? fun _ => .pure ()
 | .rng => onO v.rng? fun p => onP (0 < p.2.2 ∧ p.2.2 < 1073741824 ∧ -1099511627776 < p.1 ∧ p.1 < 1099511627776 ∧ -1099511627776 < p.2.1 ∧ p.2.1 < 1099511627776) (.pure ())
 | .dct => fun st => onO (dictAt st v) (fun p => onP (p.2.all (fun e => e.1.kind == 1) = true) fun st => some (.ok (), st.set p.1 (.ldict p.2))) st
noncomputable def bindT (tg : List Nat) (u : V) (l : Loc) : Option Loc := match one tg with
 | some x => some (l.put x u)
 | Option.none => (two tg).bind fun t => u.tup?.bind fun us => (two us).map fun p => (l.put t.1 p.1).put t.2 p.2
noncomputable def turnL (k : Loc → M (Fl × Loc)) (p : Fl × Loc) : M (Fl × Loc) := Fl.casesOn (motive := fun _ => M (Fl × Loc)) p.1 (k p.2) (M.pure (.next, p.2)) (fun w => M.pure (.ret w, p.2))
noncomputable def noE {α : Type} (m : M α) : M α := fun st => (m st).bind fun p => Except.casesOn (motive := fun _ => Option (Except Nat α × St)) p.1 (fun _ => Option.none) (fun a => some (.ok a, p.2))
noncomputable def forL (q : Bool) (body : Loc → M (Fl × Loc)) (x : Nat) (k : FK) (v : V) : Nat → Nat → Loc → M (Fl × Loc)
 | 0, _, _ => M.fail
 | n + 1, i, loc => fun st => onO (nextV st k v i) (fun o => Option.casesOn (motive := fun _ => M (Fl × Loc)) o (onP (q = true) (M.pure (.next, loc))) fun u => (body (loc.put x u)).bind (turnL (forL q body x k v n (i + 1)))) st
noncomputable def whlL (test : Loc → M Bool) (body : Loc → M (Fl × Loc)) : Nat → Loc → M (Fl × Loc)
 | 0, _ => M.fail
 | n + 1, loc => (test loc).bind fun b => Bool.casesOn (motive := fun _ => M (Fl × Loc)) b (M.pure (.next, loc)) ((body loc).bind (turnL (whlL test body n)))
noncomputable def compL (q : Bool) (elt : Loc → M V) (cond : Loc → M Bool) (tg : List Nat) (k : FK) (v : V) : Nat → Nat → Loc → List V → M (List V)
 | 0, _, _, _ => M.fail
 | n + 1, i, loc, acc => fun st => onO (nextV st k v i) (fun o => Option.casesOn (motive := fun _ => M (List V)) o (onP (q = true) (M.pure acc)) fun u => onO (bindT tg u loc) fun loc' => (noE (cond loc')).bind fun b =>
   Bool.casesOn (motive := fun _ => M (List V)) b (compL q elt cond tg k v n (i + 1) loc' acc) ((noE (elt loc')).bind fun y => compL q elt cond tg k v n (i + 1) loc' (acc ++ [y]))) st
noncomputable def fieldIdx (c f : Nat) : Option Nat := (fieldsOf c).findIdx? (· == f)
noncomputable def instOf (st : St) (v : V) : Option (Nat × List V) := v.obj?.or ((instAt st v).map (·.2))
noncomputable def attrV (v : V) (f : Nat) : M V := fun st => onO (instOf st v) (fun p => onO (fieldIdx p.1 f) fun i => onO p.2[i]? M.pure) st
noncomputable def idxAt (n : Nat) (k : Int) : Option Nat := if ¬ n < 1099511627776 then Option.none else if 0 ≤ k ∧ k < n then some k.toNat else if k < 0 ∧ -n ≤ k then some (k + n).toNat else Option.none
noncomputable def idxV (t : IK) (v k : V) : M V := match t with
 | .tup => onO v.tup? fun xs => onO k.int? fun i => onO (idxAt xs.length i) fun j => onO xs[j]? M.pure
 | .lst => onL v fun xs => onO k.int? fun i => onO (idxAt xs.length i) fun j => onO xs[j]? M.pure
 | .byt => onO v.bytes? fun l => onO k.int? fun i => onP (0 ≤ i ∧ l.length ≤ 1099511627776) (onO l[i.toNat]? fun b => .pure (.int b))
 | .dct => onK v k fun es dk => onO (dGet es dk) M.pure
noncomputable def Ob.tag : Ob → Option Nat | .list _ => some 4 | .dict _ => some 5 | .ldict _ => some 5 | _ => none
noncomputable def tagV (st : St) (v : V) : Option Nat := match v with
 | .nil => some 0
 | .bool _ => some 1
 | .int _ => some 2
 | .str _ => some 3
 | .lst _ => some 4
 | .obj c _ => if c < 6 then some (clsAddr c) else Option.none
 | v => (slotOf st v).bind fun p => p.2.tag
noncomputable def isTag (t : Nat) (ty : Ty) : Option Bool := match ty with
 | .bool => some (t == 1)
 | .int => some (t == 1 || t == 2)
 | .list => some (t == 4)
 | .dict => some (t == 5)
 | .cls a => if [155, 183, 205, 226, 254].contains a then some (t == a) else Option.none
noncomputable def isinV (v : V) (ty : Ty) : M Bool := fun st => onO (tagV st v) (fun t => onO (isTag t ty) M.pure) st
noncomputable def strLe (a b : Str) : Bool := !(ltCps b.cps.toList a.cps.toList)
noncomputable def ins {α : Type} (le : α → α → Bool) (a : α) : List α → List α
 | [] => [a]
 | b :: r => if le a b then a :: b :: r else b :: ins le a r
noncomputable def isort {α : Type} (le : α → α → Bool) : List α → List α
 | [] => []
 | a :: r => ins le a (isort le r)
noncomputable def intLe (a b : Int) : Bool := decide (a ≤ b)
noncomputable def dkeys (es : List (DK × V)) : List V := es.map fun e => e.1.toV
noncomputable def natStr (n : Int) : Str := Str.ofString (toString n)
noncomputable def biV (q : Bool) (b : BI) (args : List V) : M V := match b with
 | .lenB => onO (one args) fun v => onO v.bytes? fun l => onP (l.length ≤ 1099511627776) (.pure (.int l.length))
 | .lenL => onO (one args) fun v => onL v fun xs => onP (xs.length ≤ 1099511627776) (.pure (.int xs.length))
 | .range1 => onO (one args) fun v => onO v.int? fun b => .pure (.rng 0 b 1)
 | .range3 => onO (three args) fun p => onO p.1.int? fun a => onO p.2.1.int? fun b => onO p.2.2.int? fun s => onP (0 < s ∧ s < 1073741824) (.pure (.rng a b s))
 | .abs => onO (one args) fun v => onO v.int? fun i => .pure (.int i.natAbs)
 | .sum => onO (one args) fun v => onL v fun xs => onO (intsOf xs) fun l => onP (q = true) (.pure (.int l.sum))
 | .sortL => onO (one args) fun v => onL v fun xs => onO (intsOf xs) fun l => onP (xs.length < 64) (mPush (.list ((isort intLe l).map .int)))
 | .sortDI => onO (one args) fun v => onP (q = true) fun st => onO (dictR st v) (fun p => onO (intsOf (dkeys p.2)) fun l => onP (p.2.length < 64) (mPush (.list ((isort intLe l).map .int)))) st
 | .sortDS => onO (one args) fun v => onP (q = true) fun st => onO (dictR st v) (fun p => onO (strsOf (dkeys p.2)) fun l => onP (p.2.length < 64) (mPush (.list ((isort strLe l).map .str)))) st
 | .str => onO (one args) fun v => onO v.int? fun i => onP (i.natAbs < 2 ^ 62) (.pure (.str (natStr i)))
 | .dict => onO (one args) fun v => onP (q = true) (onL v fun xs => onO (allOf pairOf xs) fun kvs => onP (kvs.length ≤ 1000 ∧ (kvs.map (·.1)).Nodup) (mPush (.dict (kvs.map fun p => (.s p.1, p.2)))))
 | .tuple => onO (one args) fun v => onL v fun xs => onP (xs.length ≤ 10000000) (.pure (.tup xs))
 | .bytesB => onO (one args) fun v => onO v.bytes? fun l => .pure (.bytes l)
 | .bytesL => onO (one args) fun v => onP (q = true) (onL v fun xs => onO (intsOf xs) fun l => onP (bits8 l = true ∧ l.length ≤ 10000000) (.pure (.bytes (l.map Int.toNat))))
 | .ord => onO (one args) fun v => onO v.str? fun s => onO (one s.cps.toList) fun c => .pure (.int c)
 | .chr => onO (one args) fun v => onO v.int? fun i => onP (0 ≤ i ∧ i < 1114112) (.pure (.str ⟨#[i.toNat]⟩))
 | .listT => onO (one args) fun v st => onO (v.tup?.or (listOf st v)) (fun xs => onP (xs.length ≤ 10000000) (mPush (.list xs))) st
noncomputable def slotL (st : St) (v : V) : Option (Nat × List V) := (slotOf st v).bind fun p => p.2.list?.map fun xs => (p.1, xs)
noncomputable def methV (o : V) (m : MK) (args : List V) : M V := match m with
 | .get1 => onO (one args) fun k => onK o k fun es dk => .pure ((dGet es dk).getD .nil)
 | .get2 => onO (two args) fun p => onK o p.1 fun es dk => .pure ((dGet es dk).getD p.2)
 | .append => onO (one args) fun v st => onO (slotL st o) (fun p => onP (p.2.length ≤ 10000000) fun st => some (.ok .nil, st.set p.1 (.list (p.2 ++ [v])))) st
 | .pop => onO (one args) fun v => onO v.int? fun i => onP (i = 0) fun st => onO (slotL st o) (fun p => onP (p.2.length ≤ 10000000) (onO p.2.head? fun x st => some (.ok x, st.set p.1 (.list p.2.tail)))) st
 | .index => onO (one args) fun v => onO v.int? fun k => onO o.tup? fun xs => onO (intsOf xs) fun l => onO (l.findIdx? (fun j => decide (j = k))) fun j => .pure (.int j)
 | .join => onO (one args) fun v => onO o.str? fun s => onP (s.cps.toList = []) (onL v fun xs => onO (strsOf xs) fun l => onP ((l.map (·.length)).sum ≤ 1000000) (.pure (.str ⟨(l.flatMap fun s => s.cps.toList).toArray⟩)))
 | .count => onO (one args) fun v => onO v.str? fun t => onO o.str? fun s => onO (one t.cps.toList) fun c => .pure (.int (s.cps.toList.count c))
 | .starts => onO (one args) fun v => onO v.bytes? fun p => onO o.bytes? fun l => .pure (.bool (p.isPrefixOf l))
noncomputable def readyV (o : V) (m : MK) : M Unit := match m with
 | .get1 => fun st => onO (dictR st o) (fun _ => .pure ()) st
 | .get2 => fun st => onO (dictR st o) (fun _ => .pure ()) st
 | .append => fun st => onO (slotL st o) (fun _ => .pure ()) st
 | .pop => fun st => onO (slotL st o) (fun _ => .pure ()) st
 | .index => onO o.tup? fun _ => .pure ()
 | .join => onO o.str? fun _ => .pure ()
 | .count => onO o.str? fun _ => .pure ()
 | .starts => onO o.bytes? fun _ => .pure ()
noncomputable def preV (v n : V) : M V := onO n.int? fun k => onP (0 ≤ k ∧ k < 1000) (onL v fun xs => onP (xs.length ≤ 10000000) (mPush (.list (xs.take k.toNat))))
noncomputable def setAttrV (v : V) (f : Nat) (x : V) : M Unit := fun st => onO (instAt st v) (fun p => onP (fieldIdx p.2.1 f = some p.2.2.length) fun st => some (.ok (), st.set p.1 (.inst p.2.1 (p.2.2 ++ [x])))) st
noncomputable def setIdxV (t : IK) (v k x : V) : M Unit := match t with
 | .dct => fun st => onO (dictAt st v) (fun p => onO k.toKey fun k => onP (sameKind k p.2 = true ∧ p.2.length ≤ 1000000) fun st => some (.ok (), st.set p.1 (.dict (dSet p.2 k x)))) st
 | _ => fun st => onO (slotL st v) (fun p => onO k.int? fun j => onP (0 ≤ j ∧ j < p.2.length ∧ p.2.length < 1099511627776) fun st => some (.ok (), st.set p.1 (.list (p.2.set j.toNat x)))) st
noncomputable def freezeL (v : V) : M V := fun st => match slotL st v with
 | some p => some (.ok (.lst p.2), st.set p.1 .gone)
 | none => some (.ok v, st)
noncomputable def freezeLs : List V → M (List V)
 | [] => M.pure []
 | v :: r => (freezeL v).bind fun v' => (freezeLs r).bind fun r' => M.pure (v' :: r')
noncomputable def freezeO (i : Nat) : M V := fun st => onO (instAt st (.ref i)) (fun p => onP (p.2.2.length = (fieldsOf p.2.1).length) fun st => if p.2.1 = 3 then ((freezeLs p.2.2).bind fun fs' => M.pure (.obj p.2.1 fs')) (st.set i .gone) else some (.ok (.obj p.2.1 p.2.2), st.set i .gone)) st
section
variable (call : Addr → List V → M V) (q : Bool)
noncomputable def newV (c : Nat) (args : List V) : M V :=
 (mPush (.inst c [])).bind fun o => (call (initAddr c) (o :: args)).bind fun r => onP (r.isNil = true) (onO o.ref? freezeO)
noncomputable def DK.isS : DK → Bool | .s _ => true | _ => false
noncomputable def DK.isI : DK → Bool | .i _ => true | _ => false
noncomputable def dctV (ks : List DK) (vs : List V) : M V := onP (ks.length = vs.length ∧ ks.Nodup ∧ ks.length ≤ 15 ∧ (ks.all DK.isS = true ∨ ks.all DK.isI = true)) (mPush (.dict (ks.zip vs)))
noncomputable def truthV (v : V) : M Bool := onO v.bool? M.pure
noncomputable def trV (m : M V) : M V × M Bool := (m, m.bind truthV)
noncomputable def boolV (m : M Bool) : M V × M Bool := (m.bind fun r => M.pure (.bool r), m)
mutual
noncomputable def ev2 (loc up : Loc) : E → M V × M Bool
 | .dead => trV M.fail
 | .lit v => trV (M.pure v)
 | .loc x => trV (onO (loc x) M.pure)
 | .up x => trV (onO (up x) M.pure)
 | .attr e f => trV ((ev2 loc up e).1.bind fun v => attrV v f)
 | .idx t e i => trV ((ev2 loc up e).1.bind fun v => (ev2 loc up i).1.bind fun k => idxV t v k)
 | .pre e n => trV ((ev2 loc up e).1.bind fun v => (ev2 loc up n).1.bind fun k => preV v k)
 | .bin o a b => trV ((ev2 loc up a).1.bind fun x => (ev2 loc up b).1.bind fun y => opV o x y)
 | .cmp k n a b => boolV ((ev2 loc up a).1.bind fun x => (ev2 loc up b).1.bind fun y => cmpV k n x y)
 | .cmp2 k1 k2 a b c => boolV ((ev2 loc up a).1.bind fun x => (ev2 loc up b).1.bind fun y => (cmpV k1 false x y).bind fun r => if r then (ev2 loc up c).1.bind fun z => cmpV k2 false y z else M.pure false)
 | .and es => (evAnd loc up es, evAllB loc up es)
 | .or es => (evOr loc up es, evAnyB loc up es)
 | .not e => ((ev2 loc up e).1.bind fun v => (truthV v).bind fun b => M.pure (.bool !b), (ev2 loc up e).2.bind fun b => M.pure !b)
 | .neg e => trV ((ev2 loc up e).1.bind fun v => onO v.int? fun i => M.pure (.int (-i)))
 | .ite c a b => ((ev2 loc up c).2.bind fun t => if t then (ev2 loc up a).1 else (ev2 loc up b).1, (ev2 loc up c).2.bind fun t => if t then (ev2 loc up a).2 else (ev2 loc up b).2)
 | .lst es => trV ((evEs loc up es).bind fun vs => onP (vs.length ≤ 1000) (mPush (.list vs)))
 | .tup es => trV ((evEs loc up es).bind fun vs => onP (vs.length ≤ 1000) (M.pure (.tup vs)))
 | .dct ks vs => trV ((evEs loc up vs).bind fun vs => dctV ks vs)
 | .comp k elt tg it cond => trV ((ev2 loc up it).1.bind fun v => (lockV k v).bind fun _ =>
   (compL q (fun l => (ev2 l loc elt).1) (fun l => match cond with | Option.none => M.pure true | some c => (ev2 l loc c).2) tg k v fuelW 0 Loc.none []).bind fun xs => mPush (.list xs))
 | .callF f args => trV ((evEs loc up args).bind fun vs => call f vs)
 | .new c args => trV ((evEs loc up args).bind fun vs => newV call c vs)
 | .callO c m o args => trV ((ev2 loc up o).1.bind fun ov => onO ov.obj? fun p => onP (p.1 = c) (onO (methOf c m) fun a => (evEs loc up args).bind fun vs => call a (ov :: vs)))
 | .callB m o args => trV ((ev2 loc up o).1.bind fun ov => (readyV ov m).bind fun _ => (evEs loc up args).bind fun vs => methV ov m vs)
 | .isin e t => boolV ((ev2 loc up e).1.bind fun v => isinV v t)
 | .bi b args => trV ((evEs loc up args).bind fun vs => biV q b vs)
noncomputable def evEs (loc up : Loc) : Es → M (List V)
 | .nil => M.pure []
 | .cons e r => (ev2 loc up e).1.bind fun v => (evEs loc up r).bind fun vs => M.pure (v :: vs)
noncomputable def evAnd (loc up : Loc) : Es → M V
 | .nil => M.fail
 | .cons e r => match r with
   | .nil => (ev2 loc up e).1
   | r => (ev2 loc up e).1.bind fun v => (truthV v).bind fun t => if t then evAnd loc up r else M.pure v
noncomputable def evOr (loc up : Loc) : Es → M V
 | .nil => M.fail
 | .cons e r => match r with
   | .nil => (ev2 loc up e).1
   | r => (ev2 loc up e).1.bind fun v => (truthV v).bind fun t => if t then M.pure v else evOr loc up r
noncomputable def evAllB (loc up : Loc) : Es → M Bool
 | .nil => M.pure true
 | .cons e r => (ev2 loc up e).2.bind fun b => if b then evAllB loc up r else M.pure false
noncomputable def evAnyB (loc up : Loc) : Es → M Bool
 | .nil => M.pure false
 | .cons e r => (ev2 loc up e).2.bind fun b => if b then M.pure true else evAnyB loc up r
end
noncomputable abbrev evE (loc up : Loc) (e : E) : M V := (ev2 call q loc up e).1
noncomputable abbrev evB (loc up : Loc) (e : E) : M Bool := (ev2 call q loc up e).2
end
noncomputable def sealM {α : Type} (m : M α) : M α := fun st => match m st with
 | some (.error _, _) => Option.none
 | r => r
noncomputable def tryM {α : Type} (c : Nat) (m : M V) (mb : V → M α) (mh : M α) : M α := fun st => match m st with
 | some (.error c', st') => if c' = c then sealM mh st' else Option.none
 | some (.ok v, st') => sealM (mb v) st'
 | Option.none => Option.none
section
variable (call : Bool → Addr → List V → M V)
mutual
noncomputable def evS (q : Bool) (loc : Loc) : S → M (Fl × Loc)
 | .dead => M.fail
 | .asg x e => (evE (call q) q loc Loc.none e).bind fun v => M.pure (.next, loc.put x v)
 | .asg2 x y e => (evE (call q) q loc Loc.none e).bind fun v => onO v.tup? fun us => onO (two us) fun p => M.pure (.next, (loc.put x p.1).put y p.2)
 | .asgAttr o f e => (evE (call q) q loc Loc.none e).bind fun v => (evE (call q) q loc Loc.none o).bind fun ov => (setAttrV ov f v).bind fun _ => M.pure (.next, loc)
 | .asgIdx t o i e => (evE (call q) q loc Loc.none e).bind fun v => (evE (call q) q loc Loc.none o).bind fun ov => (evE (call q) q loc Loc.none i).bind fun iv => (setIdxV t ov iv v).bind fun _ => M.pure (.next, loc)
 | .ex e => (evE (call q) q loc Loc.none e).bind fun _ => M.pure (.next, loc)
 | .ife c a b => (evB (call q) q loc Loc.none c).bind fun t => if t then evSs q loc a else evSs q loc b
 | .whl c b => whlL (fun l => evB (call q) q l Loc.none c) (fun l => evSs q l b) fuelW loc
 | .for1 k x it b => (evE (call q) q loc Loc.none it).bind fun v => (lockV k v).bind fun _ => forL q (fun l => evSs q l b) x k v fuelW 0 loc
 | .ret e => (evE (call q) q loc Loc.none e).bind fun v => M.pure (.ret v, loc)
 | .brk => M.pure (.brk, loc)
 | .raise c => onP (q = true) (M.throw c)
 | .tryx x e b c h => onP (q = true) (tryM c (evE (call q) q loc Loc.none e) (fun v => evSs q (match x with | some x => loc.put x v | Option.none => loc) b) (evSs false loc h))
noncomputable def evSs (q : Bool) (loc : Loc) : Ss → M (Fl × Loc)
 | .nil => M.pure (.next, loc)
 | .cons s r => (evS q loc s).bind fun fl => match fl with
   | (.next, loc') => evSs q loc' r
   | fl => M.pure fl
end
end
structure Fn where
 ps : List Nat
 dflt : List V
 body : Ss
 keep : Bool
noncomputable def bindP : List Nat → List V → Loc → Option Loc
 | [], [], l => some l
 | p :: ps, v :: vs, l => bindP ps vs (l.put p v)
 | _, _, _ => Option.none
noncomputable def withDflt (fn : Fn) (vs : List V) : List V := vs ++ fn.dflt.drop (vs.length + fn.dflt.length - fn.ps.length)
noncomputable def retV (keep : Bool) : Fl → M V
 | .ret v => if keep then M.pure v else freezeL v
 | .next => M.pure .nil
 | .brk => M.fail
mutual
noncomputable def V.clo : V → Bool
 | .ref _ => false
 | .obj _ fs => clos fs
 | .tup xs => clos xs
 | .lst xs => clos xs
 | _ => true
noncomputable def clos : List V → Bool
 | [] => true
 | v :: r => v.clo && clos r
end
noncomputable def st0 : St := ⟨0, fun _ => .gone⟩
noncomputable def cloM (vs : List V) (m : M V) : M V := fun st => if clos vs = true then (match m st0 with
  | some (.ok v, _) => if v.clo = true then some (.ok v, st) else Option.none
  | _ => Option.none) else m st
noncomputable def bodyFn (call : Bool → Addr → List V → M V) (q : Bool) (fn : Fn) (vs : List V) : M V := onO (bindP fn.ps (withDflt fn vs) Loc.none) fun loc => (evSs call q loc fn.body).bind fun fl => retV fn.keep fl.1
noncomputable def callFn (T : Addr → Option Fn) : Nat → Bool → Addr → List V → M V
 | 0, _, _, _ => M.fail
 | n + 1, q, a, vs => onO (T a) fun fn => cloM vs (bodyFn (callFn T n) q fn vs)
end Mine
end
section
open PySem PySem.W PyProof.Rows
namespace Mine
noncomputable def fname (f : Nat) : Str := Str.ofString (["text", "octets", "is_hex", "number", "generation", "table", "trailer", "title", "target", "is_open", "kids", "shelf", "faults", "seen"].getD f "?")
structure Wd where
 ρ : Nat → Addr
 σ : Nat → Addr
 B : Addr → Option Obj
noncomputable def bytesArr (l : List Nat) : Array UInt8 := (l.map UInt8.ofNat).toArray
noncomputable def EntOk (P : Params) : List DictEntry → List Nat → Prop
 | [], _ => True
 | e :: es, cs => ∃ f cs' t rv, cs = f :: cs' ∧ e = ⟨PyData.keyHash P (fname f), .str (fname f) t, rv⟩ ∧ EntOk P es cs'
mutual
noncomputable def RV (P : Params) (W : Wd) (n : Nat) : V → Value → Prop
 | .nil, rv => rv = .none
 | .bool b, rv => rv = .bool b
 | .int i, rv => ∃ t, rv = .int i t
 | .str s, rv => ∃ t, rv = .str s t
 | .bytes l, rv => ∃ t, rv = .bytes (bytesArr l) t ∧ ∀ b ∈ l, b < 256
 | .obj c fs, rv => ∃ a d es k, rv = .ref a ∧ W.B a = some (instObj (clsAddr c) d) ∧ W.B d = some (dictOf es k) ∧ EntOk P es (fieldsOf c) ∧ RVs P W n fs (es.map (·.val))
 | .tup xs, rv => ∃ a vs k, rv = .ref a ∧ W.B a = some { cls := .type "tuple", data := .seq vs.toArray k } ∧ RVs P W n xs vs
 | .lst xs, rv => ∃ a vs o, rv = .ref a ∧ W.B a = some o ∧ ((o.cls = .type "list" ∧ ∃ k, o.data = .seq vs.toArray k) ∧ o.dict = none ∧ o.slots = #[]) ∧ RVs P W n xs vs
 | .rng a b s, rv => ∃ r t u v, rv = .ref r ∧ W.B r = some { cls := .type "range", dict := none, data := .fields #[.int a t, .int b u, .int s v], slots := #[] }
 | .ref i, rv => rv = .ref (W.ρ i) ∧ i < n
noncomputable def RVs (P : Params) (W : Wd) (n : Nat) : List V → List Value → Prop
 | [], vs => vs = []
 | x :: xs, vs => ∃ r rs, vs = r :: rs ∧ RV P W n x r ∧ RVs P W n xs rs
end
def Wd.Le (W W' : Wd) (n : Nat) : Prop := (∀ i, i < n → W'.ρ i = W.ρ i ∧ W'.σ i = W.σ i) ∧ ∀ a o, W.B a = some o → W'.B a = some o
theorem Wd.Le.refl (W : Wd) (n : Nat) : W.Le W n := ⟨fun _ _ => ⟨rfl, rfl⟩, fun _ _ e => e⟩
theorem Wd.Le.trans {W W' W'' : Wd} {n n' : Nat} (x : W.Le W' n) (y : W'.Le W'' n') (h : n ≤ n') : W.Le W'' n :=
 ⟨fun i hi => ⟨(y.1 i (ltl hi h)).1.trans (x.1 i hi).1, (y.1 i (ltl hi h)).2.trans (x.1 i hi).2⟩, fun a o e => y.2 a o (x.2 a o e)⟩
noncomputable def RFs (P : Params) (W : Wd) (n : Nat) (cs : List Nat) (fs : List V) (es : List DictEntry) : Prop := EntOk P es cs ∧ RVs P W n fs (es.map (·.val))
section
variable {P : Params} {W W' : Wd} {n n' : Nat}
mutual
theorem RV.mono (L : W.Le W' n) (hn : n ≤ n') : ∀ {v : V} {rv : Value}, RV P W n v rv → RV P W' n' v rv
 | .nil, _, h => h
 | .bool _, _, h => h
 | .int _, _, h => h
 | .str _, _, h => h
 | .bytes _, _, h => h
 | .obj c fs, _, h => by
  obtain ⟨a, d, es, k, e, h1, h2, h3, h4⟩ := h
  exact ⟨a, d, es, k, e, L.2 _ _ h1, L.2 _ _ h2, h3, RVs.mono L hn h4⟩
 | .tup xs, _, h => by
  obtain ⟨a, vs, k, e, h1, h2⟩ := h
  exact ⟨a, vs, k, e, L.2 _ _ h1, RVs.mono L hn h2⟩
 | .lst xs, _, h => by
  obtain ⟨a, vs, o, e, h1, hl, h2⟩ := h
  exact ⟨a, vs, o, e, L.2 _ _ h1, hl, RVs.mono L hn h2⟩
 | .rng _ _ _, _, h => by
  obtain ⟨r, t, u, v, e, h1⟩ := h
  exact ⟨r, t, u, v, e, L.2 _ _ h1⟩
 | .ref i, _, h => ⟨h.1.trans (by rw [(L.1 i h.2).1]), ltl h.2 hn⟩
theorem RVs.mono (L : W.Le W' n) (hn : n ≤ n') : ∀ {vs : List V} {rvs : List Value}, RVs P W n vs rvs → RVs P W' n' vs rvs
 | [], _, h => h
 | _ :: _, _, h => by
  obtain ⟨r, rs, e, h1, h2⟩ := h
  exact ⟨r, rs, e, RV.mono L hn h1, RVs.mono L hn h2⟩
end
theorem RFs.mono (L : W.Le W' n) (hn : n ≤ n') {cs : List Nat} {vs : List V} {es : List DictEntry} (h : RFs P W n cs vs es) : RFs P W' n' cs vs es := ⟨h.1, h.2.mono L hn⟩
theorem RVs.length {vs : List V} : ∀ {rvs : List Value}, RVs P W n vs rvs → rvs.length = vs.length := by
 induction vs with
 | nil => intro rvs h; cases h; rfl
 | cons x xs ih => intro rvs h; obtain ⟨r, rs, rfl, _, h2⟩ := h; exact congrArg (· + 1) (ih h2)
theorem RVs.get {vs : List V} : ∀ {rvs : List Value}, RVs P W n vs rvs → ∀ {i : Nat} {v : V}, vs[i]? = some v → ∃ rv, rvs[i]? = some rv ∧ RV P W n v rv := by
 induction vs with
 | nil => intro rvs h i v e; rw [List.getElem?_nil] at e; cases e
 | cons x xs ih =>
  intro rvs h i v e
  obtain ⟨r, rs, rfl, h1, h2⟩ := h
  cases i with
  | zero => cases e; exact ⟨r, rfl, h1⟩
  | succ i => exact ih h2 e
theorem RVs.append {ys : List V} {us : List Value} (y : RVs P W n ys us) {xs : List V} : ∀ {vs : List Value}, RVs P W n xs vs → RVs P W n (xs ++ ys) (vs ++ us) := by
 induction xs with
 | nil => intro vs h; cases h; exact y
 | cons x xs ih => intro vs h; obtain ⟨r, rs, rfl, h1, h2⟩ := h; exact ⟨r, _, rfl, h1, ih h2⟩
theorem RVs.take {xs : List V} : ∀ {vs : List Value}, RVs P W n xs vs → ∀ k, RVs P W n (xs.take k) (vs.take k) := by
 induction xs with
 | nil => intro vs h k; cases h; rw [List.take_nil, List.take_nil]; rfl
 | cons x xs ih =>
  intro vs h k
  obtain ⟨r, rs, rfl, h1, h2⟩ := h
  cases k with
  | zero => rfl
  | succ k => exact ⟨r, _, rfl, h1, ih h2 k⟩
theorem RVs.set {v : V} {rv : Value} (hv : RV P W n v rv) {xs : List V} : ∀ {vs : List Value}, RVs P W n xs vs → ∀ k, RVs P W n (xs.set k v) (vs.set k rv) := by
 induction xs with
 | nil => intro vs h k; cases h; rfl
 | cons x xs ih =>
  intro vs h k
  obtain ⟨r, rs, rfl, h1, h2⟩ := h
  cases k with
  | zero => exact ⟨rv, rs, rfl, hv, h2⟩
  | succ k => exact ⟨r, _, rfl, h1, ih h2 k⟩
theorem RVs.single {v : V} {rv : Value} (h : RV P W n v rv) : RVs P W n [v] [rv] := ⟨rv, [], rfl, h, rfl⟩
theorem RV.ofNil {v : V} {rv : Value} (R : RV P W n v rv) (h : v.isNil = true) : rv = .none := by cases v <;> first | exact R | cases h
theorem RV.ofBool {v : V} {rv : Value} {x : Bool} (R : RV P W n v rv) (h : v.bool? = some x) : rv = .bool x := by cases v <;> cases h; exact R
theorem RV.ofInt {v : V} {rv : Value} {x : Int} (R : RV P W n v rv) (h : v.int? = some x) : ∃ t, rv = .int x t := by cases v <;> cases h; exact R
theorem RV.ofStr {v : V} {rv : Value} {x : Str} (R : RV P W n v rv) (h : v.str? = some x) : ∃ t, rv = .str x t := by cases v <;> cases h; exact R
theorem RV.ofBytes {v : V} {rv : Value} {x : List Nat} (R : RV P W n v rv) (h : v.bytes? = some x) : ∃ t, rv = .bytes (bytesArr x) t ∧ ∀ b ∈ x, b < 256 := by cases v <;> cases h; exact R
theorem RV.ofTup {v : V} {rv : Value} {x : List V} (R : RV P W n v rv) (h : v.tup? = some x) : ∃ a vs k, rv = .ref a ∧ W.B a = some { cls := .type "tuple", data := .seq vs.toArray k } ∧ RVs P W n x vs := by cases v <;> cases h; exact R
theorem RV.ofRng {v : V} {rv : Value} {a b s : Int} (R : RV P W n v rv) (h : v.rng? = some (a, b, s)) : ∃ r t u v, rv = .ref r ∧ W.B r = some { cls := .type "range", dict := none, data := .fields #[.int a t, .int b u, .int s v], slots := #[] } := by cases v <;> cases h; exact R
theorem RV.ofObj {v : V} {rv : Value} {c : Nat} {fs : List V} (R : RV P W n v rv) (h : v.obj? = some (c, fs)) : ∃ a d es k, rv = .ref a ∧ W.B a = some (instObj (clsAddr c) d) ∧ W.B d = some (dictOf es k) ∧ RFs P W n (fieldsOf c) fs es := by
 cases v <;> cases h
 obtain ⟨a, d, es, k, e, h1, h2, h3, h4⟩ := R
 exact ⟨a, d, es, k, e, h1, h2, h3, h4⟩
theorem RV.ofLst {v : V} {rv : Value} {x : List V} (R : RV P W n v rv) (h : v.lst? = some x) : ∃ a vs o, rv = .ref a ∧ W.B a = some o ∧ ((o.cls = .type "list" ∧ ∃ k, o.data = .seq vs.toArray k) ∧ o.dict = none ∧ o.slots = #[]) ∧ RVs P W n x vs := by cases v <;> cases h; exact R
theorem RV.ofRef {v : V} {rv : Value} {i : Nat} (R : RV P W n v rv) (h : v.ref? = some i) : rv = .ref (W.ρ i) ∧ i < n := by cases v <;> cases h; exact R
theorem RV.ref {i : Nat} (h : i < n) : RV P W n (.ref i) (.ref (W.ρ i)) := ⟨rfl, h⟩
theorem RV.int (i : Int) (t : Tok) : RV P W n (.int i) (.int i t) := ⟨t, rfl⟩
theorem RV.str (i : Str) (t : Tok) : RV P W n (.str i) (.str i t) := ⟨t, rfl⟩
theorem RV.bytes (l : List Nat) (t : Tok) (h : ∀ b ∈ l, b < 256) : RV P W n (.bytes l) (.bytes (bytesArr l) t) := ⟨t, rfl, h⟩
theorem RV.tup {a : Addr} {xs : List V} {vs : List Value} {k : Nat} (h1 : W.B a = some { cls := .type "tuple", data := .seq vs.toArray k }) (h2 : RVs P W n xs vs) : RV P W n (.tup xs) (.ref a) := ⟨a, vs, k, rfl, h1, h2⟩
theorem RVs.ofOne {vs : List V} {rvs : List Value} {x : V} (R : RVs P W n vs rvs) (h : one vs = some x) : ∃ r, rvs = [r] ∧ RV P W n x r := by
 match vs with
 | [_] =>
  cases h
  obtain ⟨r, rs, rfl, h1, h2⟩ := R
  cases h2
  exact ⟨r, rfl, h1⟩
 | [] => cases h
 | _ :: _ :: _ => cases h
theorem RVs.ofTwo {vs : List V} {rvs : List Value} {x : V × V} (R : RVs P W n vs rvs) (h : two vs = some x) : ∃ r t, rvs = [r, t] ∧ RV P W n x.1 r ∧ RV P W n x.2 t := by
 match vs with
 | [_, _] =>
  cases h
  obtain ⟨r, rs, rfl, h1, r2, rs2, rfl, h2, h3⟩ := R
  cases h3
  exact ⟨r, r2, rfl, h1, h2⟩
 | [] => cases h
 | [_] => cases h
 | _ :: _ :: _ :: _ => cases h
theorem RVs.ofThree {vs : List V} {rvs : List Value} {x : V × V × V} (R : RVs P W n vs rvs) (h : three vs = some x) : ∃ r t u, rvs = [r, t, u] ∧ RV P W n x.1 r ∧ RV P W n x.2.1 t ∧ RV P W n x.2.2 u := by
 match vs with
 | [_, _, _] =>
  cases h
  obtain ⟨r, rs, rfl, h1, r2, rs2, rfl, h2, r3, rs3, rfl, h3, h4⟩ := R
  cases h4
  exact ⟨r, r2, r3, rfl, h1, h2, h3⟩
 | [] => cases h
 | [_] => cases h
 | [_, _] => cases h
 | _ :: _ :: _ :: _ :: _ => cases h
end
noncomputable def DP (P : Params) (W : Wd) (n : Nat) {K : Type} (f : K → DK) : List (DK × V) → List (K × Value) → Prop
 | [], kvs => kvs = []
 | e :: es, kvs => ∃ k rv r, kvs = (k, rv) :: r ∧ e.1 = f k ∧ RV P W n e.2 rv ∧ DP P W n f es r
noncomputable def DPp (P : Params) (W : Wd) (n : Nat) : List (DK × V) → List (List Int × Addr × Value) → Prop
 | [], kvs => kvs = []
 | e :: es, kvs => ∃ x y a rv r, kvs = ([x, y], a, rv) :: r ∧ e.1 = .p x y ∧ RV P W n e.2 rv ∧ (∃ o, W.B a = some o) ∧ DPp P W n es r
section
variable {P : Params} {W W' : Wd} {n n' : Nat}
theorem DP.mono (L : W.Le W' n) (hn : n ≤ n') {K : Type} {f : K → DK} {es : List (DK × V)} : ∀ {kvs : List (K × Value)}, DP P W n f es kvs → DP P W' n' f es kvs := by
 induction es with
 | nil => exact id
 | cons e es ih => intro kvs h; obtain ⟨k, rv, r, e1, e2, h1, h2⟩ := h; exact ⟨k, rv, r, e1, e2, h1.mono L hn, ih h2⟩
theorem DPp.mono (L : W.Le W' n) (hn : n ≤ n') {es : List (DK × V)} : ∀ {kvs : List (List Int × Addr × Value)}, DPp P W n es kvs → DPp P W' n' es kvs := by
 induction es with
 | nil => exact id
 | cons e es ih => intro kvs h; obtain ⟨x, y, a, rv, r, e1, e2, h1, ⟨o, h2⟩, h3⟩ := h; exact ⟨x, y, a, rv, r, e1, e2, h1.mono L hn, ⟨o, L.2 _ _ h2⟩, ih h3⟩
theorem DPp.froz {es : List (DK × V)} : ∀ {kvs : List (List Int × Addr × Value)}, DPp P W n es kvs → ∀ x ∈ kvs, ∃ o, W.B x.2.1 = some o := by
 induction es with
 | nil => intro kvs h x hx; cases h; cases hx
 | cons e es ih =>
  intro kvs h z hz
  obtain ⟨x, y, a, rv, r, rfl, _, _, h2, h3⟩ := h
  rcases List.mem_cons.mp hz with rfl | hz
  ·exact h2
  ·exact ih h3 z hz
end
inductive DRel (prog : Program) (w : World) (W : Wd) (n : Nat) (h : Heap) (a : Addr) (es : List (DK × V)) : Prop
 | s (kvs : List (Str × Value)) (hd : h.DictOf (strKind prog w) a kvs) (hv : DP w.params W n DK.s es kvs)
 | i (kvs : List (Int × Value)) (hd : h.DictOf (intKind prog w) a kvs) (hv : DP w.params W n DK.i es kvs)
 | p (xs : List (List Int × Addr × Value)) (hd : h.DictOfH (tupleKind (intKind prog w)) a xs) (hv : DPp w.params W n es xs)
def ROb (prog : Program) (w : World) (W : Wd) (n : Nat) (h : Heap) (i : Nat) : Ob → Prop
 | .list xs => ∃ (vs : List Value), h.IsList (W.ρ i) vs.toArray ∧ RVs w.params W n xs vs ∧ ∀ o, h.get? (W.ρ i) = some o → o.dict = none ∧ o.slots = #[]
 | .dict es => DRel prog w W n h (W.ρ i) es
 | .ldict es => DRel prog w W n h (W.ρ i) es ∧ (∃ o, W.B (W.ρ i) = some o) ∧ (W.ρ i == sysModules) = false
 | .inst c fs => ∃ es k, h.get? (W.ρ i) = some (instObj (clsAddr c) (W.σ i)) ∧ h.get? (W.σ i) = some (dictOf es k) ∧ RFs w.params W n (fieldsOf c) fs es
 | .gone => True
def Owned (W : Wd) (n : Nat) (a : Addr) : Prop := ∃ i, i < n ∧ (a = W.ρ i ∨ a = W.σ i)
def isGone : Ob → Bool | .gone => true | .ldict _ => true | _ => false
structure Inv (prog : Program) (w : World) (b₀ : Heap) (W : Wd) (st : St) (h : Heap) : Prop where
 base : ∀ a o, b₀.get? a = some o → W.B a = some o
 sub : ∀ a o, W.B a = some o → h.get? a = some o
 own : ∀ i, i < st.n → ROb prog w W st.n h i (st.f i)
 apart : ∀ i, i < st.n → isGone (st.f i) = false → W.B (W.ρ i) = none ∧ W.B (W.σ i) = none
 inj : ∀ i j, i < st.n → j < st.n → i ≠ j → W.ρ i ≠ W.ρ j ∧ W.ρ i ≠ W.σ j ∧ W.σ i ≠ W.σ j
 live : ∀ i, i < st.n → (∃ o, h.get? (W.ρ i) = some o) ∧ ∃ o, h.get? (W.σ i) = some o
def isDictD (o : Obj) : Prop := ∃ es ep, o.data = .dict es ep
structure Step (F : List Addr) (W : Wd) (st : St) (h : Heap) (W' : Wd) (st' : St) (h' : Heap) : Prop where
 grow : st.n ≤ st'.n
 le : W.Le W' st.n
 fresh : ∀ i, st.n ≤ i → i < st'.n → h.get? (W'.ρ i) = none ∧ h.get? (W'.σ i) = none
 newB : ∀ a o, W'.B a = some o → W.B a = some o ∨ Owned W st.n a ∨ h.get? a = none
 exact : ∀ a o, h.get? a = some o → ¬ Owned W st.n a → (a ∉ F ∨ ¬ isDictD o) → h'.get? a = some o
 slots : ∀ a o, h.get? a = some o → ¬ Owned W st.n a → ∃ sl, h'.get? a = some { o with slots := sl }
theorem Owned.mono {W W' : Wd} {n n' : Nat} (L : W.Le W' n) (hn : n ≤ n') {a : Addr} : Owned W n a → Owned W' n' a := fun ⟨i, hi, h⟩ =>
 ⟨i, ltl hi hn, by rw [(L.1 i hi).1, (L.1 i hi).2]; exact h⟩
theorem Step.refl {F : List Addr} (W : Wd) (st : St) (h : Heap) : Step F W st h W st h :=
 ⟨Nat.le_refl _, .refl _ _, fun i h1 h2 => absurd h2 (Nat.not_lt.mpr h1), fun _ _ e => .inl e, fun _ _ e _ _ => e, fun _ o e _ => ⟨o.slots, e⟩⟩
theorem Step.ofAll {F : List Addr} {W W' : Wd} {st st' : St} {h h' : Heap} (h1 : st.n ≤ st'.n) (h2 : W.Le W' st.n) (h3 : ∀ i, st.n ≤ i → i < st'.n → h.get? (W'.ρ i) = none ∧ h.get? (W'.σ i) = none)
  (h4 : ∀ a o, W'.B a = some o → W.B a = some o ∨ Owned W st.n a ∨ h.get? a = none) (h5 : ∀ a o, h.get? a = some o → ¬ Owned W st.n a → h'.get? a = some o) : Step F W st h W' st' h' :=
 ⟨h1, h2, h3, h4, fun a o e ho _ => h5 a o e ho, fun a o e ho => ⟨o.slots, h5 a o e ho⟩⟩
section
variable {prog : Program} {w : World} {b₀ : Heap} {W W' W'' : Wd} {st st' st'' : St} {h h' h'' : Heap} {F : List Addr}
theorem Step.alive (x : Step F W st h W' st' h') (I' : Inv prog w b₀ W' st' h') {a : Addr} {o : Obj} (e : h.get? a = some o) : ∃ o, h'.get? a = some o := by
 by_cases ho : Owned W st.n a
 ·obtain ⟨i, hi, h1⟩ := ho
  obtain ⟨l1, l2⟩ := I'.live i (ltl hi x.grow)
  rw [(x.le.1 i hi).1] at l1
  rw [(x.le.1 i hi).2] at l2
  rcases h1 with rfl | rfl
  ·exact l1
  ·exact l2
 ·obtain ⟨sl, q⟩ := x.slots a o e ho; exact ⟨_, q⟩
theorem Step.noneB (x : Step F W st h W' st' h') (I' : Inv prog w b₀ W' st' h') {a : Addr} (e : h'.get? a = none) : h.get? a = none := by
 cases q : h.get? a with
 | none => rfl
 | some o => obtain ⟨o', e'⟩ := x.alive I' q; rw [e] at e'; cases e'
theorem Step.notOwned (x : Step F W st h W' st' h') {a : Addr} {o : Obj} (e : h.get? a = some o) (ho : ¬ Owned W st.n a) : ¬ Owned W' st'.n a := by
 rintro ⟨i, hi, h1⟩
 by_cases hl : i < st.n
 ·exact ho ⟨i, hl, by rw [← (x.le.1 i hl).1, ← (x.le.1 i hl).2]; exact h1⟩
 ·obtain ⟨f1, f2⟩ := x.fresh i (Nat.not_lt.mp hl) hi
  rcases h1 with rfl | rfl
  ·rw [f1] at e; cases e
  ·rw [f2] at e; cases e
theorem Step.notB (x : Step F W st h W' st' h') {a : Addr} {o : Obj} (e : h.get? a = some o) (ho : ¬ Owned W st.n a) (hb : W.B a = Option.none) : W'.B a = Option.none := by
 cases q : W'.B a with
 | none => rfl
 | some o' =>
  rcases x.newB a o' q with h1 | h1 | h1
  ·rw [hb] at h1; cases h1
  ·exact absurd h1 ho
  ·rw [h1] at e; cases e
theorem Step.trans (x : Step F W st h W' st' h') (I' : Inv prog w b₀ W' st' h') (y : Step F W' st' h' W'' st'' h'') : Step F W st h W'' st'' h'' := by
 refine ⟨Nat.le_trans x.grow y.grow, x.le.trans y.le x.grow, fun i h1 h2 => ?_, fun a o e => ?_, fun a o e ho hf => ?_, fun a o e ho => ?_⟩
 ·by_cases hl : i < st'.n
  ·rw [(y.le.1 i hl).1, (y.le.1 i hl).2]; exact x.fresh i h1 hl
  ·obtain ⟨f1, f2⟩ := y.fresh i (Nat.not_lt.mp hl) h2
   exact ⟨x.noneB I' f1, x.noneB I' f2⟩
 ·rcases y.newB a o e with h1 | h1 | h1
  ·exact x.newB a o h1
  ·by_cases hq : h.get? a = Option.none
   ·exact .inr (.inr hq)
   ·obtain ⟨o', e'⟩ := Option.ne_none_iff_exists'.mp hq
    by_cases ho : Owned W st.n a
    ·exact .inr (.inl ho)
    ·exact absurd h1 (x.notOwned e' ho)
  ·exact .inr (.inr (x.noneB I' h1))
 ·exact y.exact a o (x.exact a o e ho hf) (x.notOwned e ho) hf
 ·obtain ⟨sl, q⟩ := x.slots a o e ho
  obtain ⟨sl', q'⟩ := y.slots a _ q (x.notOwned e ho)
  exact ⟨sl', q'⟩
end
noncomputable def framesOf (A : Around) : List Env := A.frames.getD []
noncomputable def fAddrs (A : Around) : List Addr := (framesOf A).filterMap (·.frame)
noncomputable def excAddr : Nat → Addr | 0 => 59 | _ => 0
noncomputable def TracedC (h base : Heap) (e : Addr) (cls fl : Value) : Prop :=
 ∃ oe vs T oT ts, h.get? e = some oe ∧ oe.cls = cls ∧ oe.data = .fields vs ∧ vs[1]? = some (.ref T) ∧ vs[2]? = some .none ∧ base.get? T = none ∧ T ≠ e ∧ h.get? T = some oT ∧ oT.data = .fields ts ∧ ts[3]? = some fl
inductive ExState (h base : Heap) (ea : Addr) (C : Addr) (L? : Option Addr) : Prop
 | made (o : Obj) (vs : Array Value) (he : h.get? ea = some o) (hc : o.cls = .ref C) (hd : o.data = .fields vs) (h1 : vs[1]? = some .none) (h2 : vs[2]? = some .none)
 | flying (ht : TracedC h base ea (.ref C) .none)
 | held (L : Addr) (hL : L? = some L) (ht : TracedC h base ea (.ref C) (rawInt L))
structure ExPost (prog : Program) (w : World) (b₀ : Heap) (A : Around) (W : Wd) (st : St) (h : Heap) (W' : Wd) (st' : St) (h' : Heap) (c : Nat) (e : Value) : Prop where
 inv : Inv prog w b₀ W' st' h'
 step : Step (fAddrs A) W st h W' st' h'
 fro : ∀ L ∈ fAddrs A, ¬ Owned W' st'.n L ∧ W'.B L = none ∧ ∃ o, h'.get? L = some o ∧ isDictD o
 ex : ∃ ea base, e = .ref ea ∧ base.StaysIn h' ∧ base.get? ea = none ∧ h'.FunFrames base (framesOf A) ∧ ExState h' base ea (excAddr c) ((framesOf A).head?.bind (·.frame)) ∧
  ∀ a o, h'.get? a = some o → ((∃ o₀, h.get? a = some o₀) ∨ Owned W' st'.n a ∨ ∃ o₀, W'.B a = some o₀) → a ∉ fAddrs A → base.get? a = some o
section
variable {prog : Program} {w : World} {b₀ : Heap} {W W' W'' : Wd} {st st' st'' : St} {h h' h'' : Heap} {A : Around} {c : Nat} {e : Value}
theorem Step.transE (x : Step (fAddrs A) W st h W' st' h') (I' : Inv prog w b₀ W' st' h') (y : ExPost prog w b₀ A W' st' h' W'' st'' h'' c e) : ExPost prog w b₀ A W st h W'' st'' h'' c e := by
 obtain ⟨ea, base, h1, h2, h3, h4, h5, h6⟩ := y.ex
 refine ⟨y.inv, x.trans I' y.step, y.fro, ea, base, h1, h2, h3, h4, h5, fun a o e' hc hf => h6 a o e' ?_ hf⟩
 rcases hc with ⟨o₀, q⟩ | q | q
 ·exact .inl (x.alive I' q)
 ·exact .inr (.inl q)
 ·exact .inr (.inr q)
end
noncomputable def Sim {α β : Type} (prog : Program) (w : World) (b₀ : Heap) (A : Around) (t : Sem β) (W : Wd) (st : St) (s : Shared) (Rl : Wd → Nat → α → β → Prop) (res : Option (Except Nat α × St)) : Prop :=
 ∀ r st', res = some (r, st') → ∀ (Q : β → Shared → Prop) (E : Value → Shared → Prop),
  (∀ a b W' h' tk, r = .ok a → Inv prog w b₀ W' st' h' → Step (fAddrs A) W st s.heap W' st' h' → Rl W' st'.n a b → Q b ⟨h', s.gens, s.drawn, tk, s.os⟩) →
  (∀ c e W' h' tk, r = .error c → ExPost prog w b₀ A W st s.heap W' st' h' c e → E e ⟨h', s.gens, s.drawn, tk, s.os⟩) →
  wpAny (model prog w) A t Q E s
section
variable {α β α' β' : Type} {prog : Program} {w : World} {b₀ : Heap} {W W' : Wd} {st st' : St} {s : Shared} {A : Around} {Rl : Wd → Nat → α → β → Prop} {Rl' : Wd → Nat → α' → β' → Prop} {t : Sem β} {res : Option (Except Nat α × St)}
theorem Sim.nothing : Sim prog w b₀ A t W st s Rl Option.none := fun _ _ e => by exact noC e
theorem Sim.pure (I : Inv prog w b₀ W st s.heap) {a : α} {b : β} (hr : Rl W st.n a b) : Sim prog w b₀ A (Pure.pure b : Sem β) W st s Rl (some (.ok a, st)) := by
 intro r st' e Q E hQ _
 obtain ⟨rfl, rfl⟩ := inj2 e
 exact wpAny_pure (hQ a b W s.heap s.toks rfl I (.refl _ _ _) hr)
theorem Sim.rule {a : α} (h : ∀ (Q : β → Shared → Prop) (E : Value → Shared → Prop), (∀ b W' h' tk, Inv prog w b₀ W' st' h' → Step (fAddrs A) W st s.heap W' st' h' → Rl W' st'.n a b → Q b ⟨h', s.gens, s.drawn, tk, s.os⟩) → wpAny (model prog w) A t Q E s) :
  Sim prog w b₀ A t W st s Rl (some (.ok a, st')) := by
 intro r st'' e Q E hQ _
 obtain ⟨rfl, rfl⟩ := inj2 e
 exact h Q E fun b W' h' tk I' S' R' => hQ a b W' h' tk rfl I' S' R'
theorem Sim.tree {t' : Sem β} (h : ∀ Q E, wpAny (model prog w) A t Q E s → wpAny (model prog w) A t' Q E s) (x : Sim prog w b₀ A t W st s Rl res) : Sim prog w b₀ A t' W st s Rl res :=
 fun r st' e Q E hQ hE => h Q E (x r st' e Q E hQ hE)
theorem Sim.go {m : M α} {g : α → M α'} {r : Except Nat α'} (x : Sim prog w b₀ A t W st s Rl (m st)) (e : m.bind g st = some (r, st')) {Q : β → Shared → Prop} {E : Value → Shared → Prop}
  (ok : ∀ a b W' st₁ h' tk, Inv prog w b₀ W' st₁ h' → Step (fAddrs A) W st s.heap W' st₁ h' → Rl W' st₁.n a b → g a st₁ = some (r, st') → Q b ⟨h', s.gens, s.drawn, tk, s.os⟩)
  (err : ∀ c ex W' h' tk, r = .error c → ExPost prog w b₀ A W st s.heap W' st' h' c ex → E ex ⟨h', s.gens, s.drawn, tk, s.os⟩) : wpAny (model prog w) A t Q E s := by
 unfold M.bind at e
 cases q : m st with
 | none => rw [q] at e; exact noC e
 | some p =>
  obtain ⟨r₁, st₁⟩ := p
  rw [q] at e
  refine x r₁ st₁ q Q E (fun a b W₁ h₁ tk₁ hr I₁ S₁ R₁ => ?_) fun c ex W₁ h₁ tk₁ hr X₁ => ?_
  ·subst hr
   exact ok a b W₁ st₁ h₁ tk₁ I₁ S₁ R₁ e
  ·subst hr
   obtain ⟨rfl, rfl⟩ := inj2 e
   exact err c ex W₁ h₁ tk₁ rfl X₁
theorem Sim.goN {m : M α} {g : α → M α'} {r : Except Nat α'} (x : Sim prog w b₀ A t W st s Rl (m st)) (e : (noE m).bind g st = some (r, st')) {Q : β → Shared → Prop} {E : Value → Shared → Prop}
  (ok : ∀ a b W' st₁ h' tk, Inv prog w b₀ W' st₁ h' → Step (fAddrs A) W st s.heap W' st₁ h' → Rl W' st₁.n a b → g a st₁ = some (r, st') → Q b ⟨h', s.gens, s.drawn, tk, s.os⟩) : wpAny (model prog w) A t Q E s := by
 unfold M.bind noE at e
 cases q : m st with
 | none => rw [q] at e; exact noC e
 | some p =>
  rw [q] at e
  cases p with
  | mk r₁ st₁ =>
   cases r₁ with
   | error c => exact noC e
   | ok a => exact x _ st₁ q Q E (fun a₁ b W₁ h₁ tk₁ hr I₁ S₁ R₁ => ok a₁ b W₁ st₁ h₁ tk₁ I₁ S₁ R₁ (injO hr ▸ e)) fun c ex W₁ h₁ tk₁ hr X₁ => oeC hr
theorem Sim.bind {f : β → Sem β'} {m : M α} {g : α → M α'} (x : Sim prog w b₀ A t W st s Rl (m st))
  (y : ∀ a b W' st' h' tk, Inv prog w b₀ W' st' h' → Step (fAddrs A) W st s.heap W' st' h' → Rl W' st'.n a b → Sim prog w b₀ A (f b) W' st' ⟨h', s.gens, s.drawn, tk, s.os⟩ Rl' (g a st')) :
  Sim prog w b₀ A (t >>= f) W st s Rl' (M.bind m g st) := fun r st' e Q E hQ hE =>
 wpAny_bind (x.go e (fun a b W₁ st₁ h₁ tk₁ I₁ S₁ R₁ e => y a b W₁ st₁ h₁ tk₁ I₁ S₁ R₁ r st' e Q E (fun a' b' W₂ h₂ tk₂ hr I₂ S₂ R₂ => hQ a' b' W₂ h₂ tk₂ hr I₂ (S₁.trans I₁ S₂) R₂) fun c e' W₂ h₂ tk₂ hr X₂ => hE c e' W₂ h₂ tk₂ hr (S₁.transE I₁ X₂)) hE)
theorem Sim.mono {Rl₂ : Wd → Nat → α → β → Prop} (x : Sim prog w b₀ A t W st s Rl res) (h : ∀ W' n a b, Rl W' n a b → Rl₂ W' n a b) : Sim prog w b₀ A t W st s Rl₂ res :=
 fun r st' e Q E hQ hE => x r st' e Q E (fun a b W' h' tk hr I S R => hQ a b W' h' tk hr I S (h _ _ _ _ R)) hE
theorem Sim.holding {vs : List Value} (x : Sim prog w b₀ A t W st s Rl res) : Sim prog w b₀ A (PySem.holding vs t) W st s Rl res := x.tree fun _ _ => wpAny_holding
theorem Sim.at {pos : Pos} (x : Sim prog w b₀ A t W st s Rl res) : Sim prog w b₀ A (standAt pos >>= fun _ => t) W st s Rl res := x.tree fun _ _ h => wpAny_bind (wpAny_standAt h)
theorem Sim.onO {γ : Type} {o : Option γ} {k : γ → M α} (h : ∀ x, o = some x → Sim prog w b₀ A t W st s Rl (k x st)) : Sim prog w b₀ A t W st s Rl (onO o k st) := by
 cases o with
 | none => exact .nothing
 | some x => exact h x rfl
theorem Sim.onP {p : Prop} [Decidable p] {m : M α} (h : p → Sim prog w b₀ A t W st s Rl (m st)) : Sim prog w b₀ A t W st s Rl (onP p m st) := by
 unfold Mine.onP
 by_cases q : p
 ·rw [if_pos q]; exact h q
 ·rw [if_neg q]; exact .nothing
end
section
variable {prog : Program} {w : World} {b₀ : Heap} {W W' : Wd} {st st' : St} {h h' : Heap} {n n' : Nat} {F : List Addr}
theorem DRel.keep {a a' : Addr} {es : List (DK × V)} (x : DRel prog w W n h a es) (L : W.Le W' n) (hn : n ≤ n') (ha : a' = a) (hk : ∀ o, h.get? a = some o → h'.get? a = some o) (hb : ∀ b o, W.B b = some o → h.get? b = some o ∧ h'.get? b = some o) :
  DRel prog w W' n' h' a' es := by
 subst ha
 cases x with
 | s kvs hd hv =>
  obtain ⟨o, es', ep, h1, r⟩ := hd
  exact .s kvs ⟨o, es', ep, hk _ h1, r⟩ (hv.mono L hn)
 | i kvs hd hv =>
  obtain ⟨o, es', ep, h1, r⟩ := hd
  exact .i kvs ⟨o, es', ep, hk _ h1, r⟩ (hv.mono L hn)
 | p xs hd hv =>
  obtain ⟨o, es', ep, h1, h2, h3, h4, h5, h6⟩ := hd
  refine .p xs ⟨o, es', ep, hk _ h1, h2, h3, h4, fun x hx => ?_, h6⟩ (hv.mono L hn)
  obtain ⟨o', hB⟩ := hv.froz x hx
  obtain ⟨q1, q2⟩ := hb _ _ hB
  obtain ⟨o'', items, k, g1, g2⟩ := h5 x hx
  rw [q1] at g1; obtain rfl := inj1 g1
  exact ⟨o', items, k, q2, g2⟩
theorem ROb.keep {i : Nat} {ob : Ob} (x : ROb prog w W n h i ob) (L : W.Le W' n) (hn : n ≤ n') (hi : i < n) (hk : ∀ a o, (a = W.ρ i ∨ a = W.σ i) → h.get? a = some o → h'.get? a = some o) (hb : ∀ b o, W.B b = some o → h.get? b = some o ∧ h'.get? b = some o) :
  ROb prog w W' n' h' i ob := by
 cases ob with
 | list xs =>
  obtain ⟨vs, ⟨o, h1, r⟩, h2, h3⟩ := x
  have h4 : h'.get? (W'.ρ i) = some o := by rw [(L.1 i hi).1]; exact hk _ _ (.inl rfl) h1
  exact ⟨vs, ⟨o, h4, r⟩, h2.mono L hn, fun o' q => by rw [h4] at q; (obtain rfl := inj1 q); exact h3 o h1⟩
 | dict es => exact DRel.keep x L hn (L.1 i hi).1 (fun o e => hk _ o (.inl rfl) e) hb
 | ldict es =>
  obtain ⟨x, ⟨o, ho⟩, hs⟩ := x
  exact ⟨DRel.keep x L hn (L.1 i hi).1 (fun o e => hk _ o (.inl rfl) e) hb, ⟨o, by rw [(L.1 i hi).1]; exact L.2 _ _ ho⟩, by rw [(L.1 i hi).1]; exact hs⟩
 | inst c fs =>
  obtain ⟨es, k, h1, h2, h3⟩ := x
  refine ⟨es, k, ?_, ?_, h3.mono L hn⟩
  ·rw [(L.1 i hi).1, (L.1 i hi).2]; exact hk _ _ (.inl rfl) h1
  ·rw [(L.1 i hi).2]; exact hk _ _ (.inr rfl) h2
 | gone => trivial
theorem Inv.kept (I : Inv prog w b₀ W st h) (hk : ∀ a o, h.get? a = some o → h'.get? a = some o) : Inv prog w b₀ W st h' :=
 ⟨I.base, fun a o e => hk _ _ (I.sub a o e), fun i hi => (I.own i hi).keep (.refl _ _) (Nat.le_refl _) hi (fun a o _ e => hk a o e) fun b o e => ⟨I.sub b o e, hk _ _ (I.sub b o e)⟩, I.apart, I.inj,
  fun i hi => ⟨(I.live i hi).1.imp fun o e => hk _ _ e, (I.live i hi).2.imp fun o e => hk _ _ e⟩⟩
theorem Step.of_kept (hk : ∀ a o, h.get? a = some o → h'.get? a = some o) : Step F W st h W st h' :=
 .ofAll (Nat.le_refl _) (.refl _ _) (fun i h1 h2 => absurd h2 (Nat.not_lt.mpr h1)) (fun _ _ e => .inl e) (fun a o e _ => hk a o e)
theorem Inv.touch (I : Inv prog w b₀ W st h) {x : Addr} (ho : ¬ Owned W st.n x) (hB : W.B x = none) (hk : Heap.ExtBut x h h') : Inv prog w b₀ W st h' := by
 have ne : ∀ b o, W.B b = some o → b ≠ x := fun b o e q => by rw [q, hB] at e; exact noC e
 have nr : ∀ i, i < st.n → W.ρ i ≠ x ∧ W.σ i ≠ x := fun i hi => ⟨fun q => ho ⟨i, hi, .inl q.symm⟩, fun q => ho ⟨i, hi, .inr q.symm⟩⟩
 refine ⟨I.base, fun a o e => hk _ _ (ne a o e) (I.sub a o e), fun i hi => (I.own i hi).keep (.refl _ _) (Nat.le_refl _) hi (fun a o q e => hk a o ?_ e) fun b o e => ⟨I.sub b o e, hk _ _ (ne b o e) (I.sub b o e)⟩, I.apart, I.inj,
  fun i hi => ⟨(I.live i hi).1.imp fun o e => hk _ _ (nr i hi).1 e, (I.live i hi).2.imp fun o e => hk _ _ (nr i hi).2 e⟩⟩
 rcases q with rfl | rfl
 ·exact (nr i hi).1
 ·exact (nr i hi).2
theorem Step.touch {h'' : Heap} (S : Step F W st h W' st' h') {x : Addr} (hx : h.get? x = none) (hk : Heap.ExtBut x h' h'') : Step F W st h W' st' h'' :=
 ⟨S.grow, S.le, S.fresh, S.newB, fun a o e ho hf => hk a o (fun q => by rw [q, hx] at e; (exact noC e)) (S.exact a o e ho hf), fun a o e ho => let ⟨sl, q⟩ := S.slots a o e ho; ⟨sl, hk a _ (fun q => by rw [q, hx] at e; (exact noC e)) q⟩⟩
noncomputable def Wd.freeze (W : Wd) (a : Addr) (o : Obj) : Wd := { W with B := fun b => if b = a then some o else W.B b }
theorem Wd.le_freeze {a : Addr} {o : Obj} (ha : W.B a = none) (n : Nat) : W.Le (W.freeze a o) n :=
 ⟨fun _ _ => ⟨rfl, rfl⟩, fun b o' e => by
  show (if b = a then some o else W.B b) = some o'
  rw [if_neg (fun q => by rw [q, ha] at e; (exact noC e))]; exact e⟩
theorem Inv.frozen (I : Inv prog w b₀ W st h) {a : Addr} {o : Obj} (hk : ∀ b o, h.get? b = some o → h'.get? b = some o) (hn : h.get? a = none) (ho : h'.get? a = some o) :
  Inv prog w b₀ (W.freeze a o) st h' ∧ Step F W st h (W.freeze a o) st h' := by
 have hB : W.B a = none := by
  cases q : W.B a with
  | none => rfl
  | some o' => have := I.sub a o' q; rw [hn] at this; exact noC this
 have I' := I.kept hk
 have L := W.le_freeze (o := o) hB st.n
 refine ⟨⟨fun b o' e => L.2 _ _ (I.base b o' e), fun b o' e => ?_, fun i hi => (I'.own i hi).keep L (Nat.le_refl _) hi (fun _ _ _ e => e) fun b o' e => ⟨I'.sub b o' e, I'.sub b o' e⟩, fun i hi hg => ?_, I.inj, I'.live⟩,
  .ofAll (Nat.le_refl _) L (fun i h1 h2 => absurd h2 (Nat.not_lt.mpr h1)) (fun b o' e => ?_) (fun b o' e _ => hk b o' e)⟩
 ·change (if b = a then some o else W.B b) = some o' at e
  by_cases q : b = a
  ·rw [if_pos q] at e; (obtain rfl := inj1 e); rw [q]; exact ho
  ·rw [if_neg q] at e; exact I'.sub b o' e
 ·obtain ⟨q1, q2⟩ := I.live i hi
  have e1 : W.ρ i ≠ a := fun q => by obtain ⟨o', q1⟩ := q1; rw [q, hn] at q1; exact noC q1
  have e2 : W.σ i ≠ a := fun q => by obtain ⟨o', q2⟩ := q2; rw [q, hn] at q2; exact noC q2
  show (if W.ρ i = a then some o else W.B (W.ρ i)) = none ∧ (if W.σ i = a then some o else W.B (W.σ i)) = none
  rw [if_neg e1, if_neg e2]; exact I.apart i hi hg
 ·change (if b = a then some o else W.B b) = some o' at e
  by_cases q : b = a
  ·rw [q]; exact .inr (.inr hn)
  ·rw [if_neg q] at e; exact .inl e
noncomputable def Wd.slot (W : Wd) (n : Nat) (a d : Addr) : Wd := { W with ρ := fun i => if i = n then a else W.ρ i, σ := fun i => if i = n then d else W.σ i }
theorem Wd.le_slot {n : Nat} {a d : Addr} : W.Le (W.slot n a d) n :=
 ⟨fun i hi => by
  have := Nat.ne_of_lt hi
  show (if i = n then a else W.ρ i) = W.ρ i ∧ (if i = n then d else W.σ i) = W.σ i
  rw [if_neg this, if_neg this]; exact ⟨rfl, rfl⟩, fun _ _ e => e⟩
theorem Wd.slot_ρ {n : Nat} {a d : Addr} : (W.slot n a d).ρ n = a := if_pos rfl
theorem Wd.slot_σ {n : Nat} {a d : Addr} : (W.slot n a d).σ n = d := if_pos rfl
theorem St.push_f {st : St} {o : Ob} {i : Nat} (h : i < st.n) : (st.push o).f i = st.f i := if_neg (Nat.ne_of_lt h)
theorem St.push_n {st : St} {o : Ob} : (st.push o).f st.n = o := if_pos rfl
theorem Inv.slotted (I : Inv prog w b₀ W st h) {a d : Addr} {ob : Ob} (hk : ∀ b o, h.get? b = some o → h'.get? b = some o) (hn : h.get? a = none) (hnd : h.get? d = none) (ha : ∃ o, h'.get? a = some o) (hd : ∃ o, h'.get? d = some o)
  (hr : ROb prog w (W.slot st.n a d) (st.n + 1) h' st.n ob) :
  Inv prog w b₀ (W.slot st.n a d) (st.push ob) h' ∧ Step F W st h (W.slot st.n a d) (st.push ob) h' := by
 have noB : ∀ {x : Addr}, h.get? x = none → W.B x = none := fun {x} hx => by
  cases q : W.B x with
  | none => rfl
  | some o' => have := I.sub x o' q; rw [hx] at this; exact noC this
 have I' := I.kept hk
 have L : W.Le (W.slot st.n a d) st.n := W.le_slot
 have old : ∀ i, i < st.n → W.ρ i ≠ a ∧ W.ρ i ≠ d ∧ W.σ i ≠ a ∧ W.σ i ≠ d := fun i hi => by
  obtain ⟨⟨o1, q1⟩, ⟨o2, q2⟩⟩ := I.live i hi
  refine ⟨fun q => ?_, fun q => ?_, fun q => ?_, fun q => ?_⟩
  ·rw [q, hn] at q1; exact noC q1
  ·rw [q, hnd] at q1; exact noC q1
  ·rw [q, hn] at q2; exact noC q2
  ·rw [q, hnd] at q2; exact noC q2
 refine ⟨⟨I.base, I'.sub, fun i hi => ?_, fun i hi hg => ?_, fun i j hi hj hij => ?_, fun i hi => ?_⟩, .ofAll (Nat.le_succ _) L (fun i h1 h2 => ?_) (fun _ _ e => .inl e) (fun b o e _ => hk b o e)⟩
 ·by_cases q : i = st.n
  ·subst q; rw [St.push_n]; exact hr
  ·have hl : i < st.n := Nat.lt_of_le_of_ne (Nat.le_of_lt_succ hi) q
   rw [St.push_f hl]
   exact (I'.own i hl).keep L (Nat.le_succ _) hl (fun _ _ _ e => e) fun b o' e => ⟨I'.sub b o' e, I'.sub b o' e⟩
 ·by_cases q : i = st.n
  ·subst q; rw [Wd.slot_ρ, Wd.slot_σ]; exact ⟨noB hn, noB hnd⟩
  ·have hl : i < st.n := Nat.lt_of_le_of_ne (Nat.le_of_lt_succ hi) q
   rw [(L.1 i hl).1, (L.1 i hl).2]; rw [St.push_f hl] at hg; exact I.apart i hl hg
 ·by_cases q : i = st.n
  ·have hl : j < st.n := Nat.lt_of_le_of_ne (Nat.le_of_lt_succ hj) fun q' => hij (q.trans q'.symm)
   subst q
   rw [Wd.slot_ρ, Wd.slot_σ, (L.1 j hl).1, (L.1 j hl).2]
   obtain ⟨k1, k2, k3, k4⟩ := old j hl
   exact ⟨k1.symm, k3.symm, k4.symm⟩
  ·have hli : i < st.n := Nat.lt_of_le_of_ne (Nat.le_of_lt_succ hi) q
   by_cases q' : j = st.n
   ·subst q'
    rw [Wd.slot_ρ, Wd.slot_σ, (L.1 i hli).1, (L.1 i hli).2]
    obtain ⟨k1, k2, k3, k4⟩ := old i hli
    exact ⟨k1, k2, k4⟩
   ·have hlj : j < st.n := Nat.lt_of_le_of_ne (Nat.le_of_lt_succ hj) q'
    rw [(L.1 i hli).1, (L.1 i hli).2, (L.1 j hlj).1, (L.1 j hlj).2]; exact I.inj i j hli hlj hij
 ·by_cases q : i = st.n
  ·subst q; rw [Wd.slot_ρ, Wd.slot_σ]; exact ⟨ha, hd⟩
  ·have hl : i < st.n := Nat.lt_of_le_of_ne (Nat.le_of_lt_succ hi) q
   rw [(L.1 i hl).1, (L.1 i hl).2]; exact I'.live i hl
 ·have q : i = st.n := Nat.le_antisymm (Nat.le_of_lt_succ h2) h1
  subst q; rw [Wd.slot_ρ, Wd.slot_σ]; exact ⟨hn, hnd⟩
theorem St.set_f {st : St} {i j : Nat} {o : Ob} (h : j ≠ i) : (st.set i o).f j = st.f j := if_neg h
theorem St.set_i {st : St} {i : Nat} {o : Ob} : (st.set i o).f i = o := if_pos rfl
theorem Inv.turned (I : Inv prog w b₀ W st h) {i : Nat} {x : Addr} {ob : Ob} (hi : i < st.n) (hg : isGone (st.f i) = false) (hx : x = W.ρ i ∨ x = W.σ i) (hs : Heap.SameBut x h h') (hl : ∃ o, h'.get? x = some o) (hr : ROb prog w W st.n h' i ob) :
  Inv prog w b₀ W (st.set i ob) h' ∧ Step F W st h W (st.set i ob) h' := by
 obtain ⟨a1, a2⟩ := I.apart i hi hg
 have neB : ∀ b o, W.B b = some o → b ≠ x := fun b o e q => by
  rcases hx with hx | hx
  ·rw [q, hx, a1] at e; exact noC e
  ·rw [q, hx, a2] at e; exact noC e
 have sub' : ∀ b o, W.B b = some o → h'.get? b = some o := fun b o e => (hs.2 b (neB b o e)).trans (I.sub b o e)
 refine ⟨⟨I.base, sub', fun j hj => ?_, fun j hj hg' => ?_, I.inj, fun j hj => ?_⟩, .ofAll (Nat.le_refl _) (.refl _ _) (fun i h1 h2 => absurd h2 (Nat.not_lt.mpr h1)) (fun _ _ e => .inl e) (fun b o e ho => (hs.2 b fun q => ?_).trans e)⟩
 ·by_cases q : j = i
  ·subst q; rw [St.set_i]; exact hr
  ·rw [St.set_f q]
   obtain ⟨k1, k2, k3⟩ := I.inj j i hj hi q
   obtain ⟨k4, k5, k6⟩ := I.inj i j hi hj (Ne.symm q)
   refine (I.own j hj).keep (.refl _ _) (Nat.le_refl _) hj (fun a o ha e => (hs.2 a fun q' => ?_).trans e) fun b o e => ⟨I.sub b o e, sub' b o e⟩
   subst q'
   rcases ha with ha | ha <;> rcases hx with hx | hx
   ·exact k1 (ha.symm.trans hx)
   ·exact k2 (ha.symm.trans hx)
   ·exact k5 (hx.symm.trans ha)
   ·exact k3 (ha.symm.trans hx)
 ·by_cases q : j = i
  ·subst q; exact ⟨a1, a2⟩
  ·rw [St.set_f q] at hg'; exact I.apart j hj hg'
 ·obtain ⟨⟨o1, q1⟩, ⟨o2, q2⟩⟩ := I.live j hj
  refine ⟨?_, ?_⟩
  ·by_cases q : W.ρ j = x
   ·rw [q]; exact hl
   ·exact ⟨o1, (hs.2 _ q).trans q1⟩
  ·by_cases q : W.σ j = x
   ·rw [q]; exact hl
   ·exact ⟨o2, (hs.2 _ q).trans q2⟩
 ·exact ho ⟨i, hi, q ▸ hx⟩
theorem Inv.shut (I : Inv prog w b₀ W st h) {i : Nat} {oa od : Obj} {ob : Ob} (hi : i < st.n) (hg : isGone (st.f i) = false) (hob : isGone ob = true) (ha : h.get? (W.ρ i) = some oa) (hd : h.get? (W.σ i) = some od)
  (hr : W.Le ((W.freeze (W.ρ i) oa).freeze (W.σ i) od) st.n → (∃ o, ((W.freeze (W.ρ i) oa).freeze (W.σ i) od).B (W.ρ i) = some o) → ROb prog w ((W.freeze (W.ρ i) oa).freeze (W.σ i) od) st.n h i ob) :
  Inv prog w b₀ ((W.freeze (W.ρ i) oa).freeze (W.σ i) od) (st.set i ob) h ∧ Step F W st h ((W.freeze (W.ρ i) oa).freeze (W.σ i) od) (st.set i ob) h := by
 obtain ⟨a1, a2⟩ := I.apart i hi hg
 generalize hW : (W.freeze (W.ρ i) oa).freeze (W.σ i) od = W' at hr ⊢
 have eρ : ∀ j, W'.ρ j = W.ρ j ∧ W'.σ j = W.σ j := fun j => by subst hW; exact ⟨rfl, rfl⟩
 have eB : ∀ b, W'.B b = if b = W.σ i then some od else if b = W.ρ i then some oa else W.B b := fun b => by subst hW; rfl
 have Bq : ∀ b o, W'.B b = some o → ((b = W.ρ i ∨ b = W.σ i) ∧ h.get? b = some o) ∨ W.B b = some o := fun b o e => by
  rw [eB] at e
  by_cases q : b = W.σ i
  ·rw [if_pos q] at e; (obtain rfl := inj1 e); exact .inl ⟨.inr q, q ▸ hd⟩
  ·rw [if_neg q] at e
   by_cases q' : b = W.ρ i
   ·rw [if_pos q'] at e; (obtain rfl := inj1 e); exact .inl ⟨.inl q', q' ▸ ha⟩
   ·rw [if_neg q'] at e; exact .inr e
 have L : W.Le W' st.n := ⟨fun j _ => eρ j, fun b o e => by
  rw [eB, if_neg (fun q => by rw [q, a2] at e; (exact noC e)), if_neg (fun q => by rw [q, a1] at e; (exact noC e))]; exact e⟩
 have sub' : ∀ b o, W'.B b = some o → h.get? b = some o := fun b o e => (Bq b o e).elim (·.2) (I.sub b o)
 have kp : ∀ b o, W.B b = some o → h.get? b = some o ∧ h.get? b = some o := fun b o e => ⟨I.sub b o e, I.sub b o e⟩
 refine ⟨⟨fun b o e => L.2 _ _ (I.base b o e), sub', fun j hj => ?_, fun j hj hg' => ?_, fun j k hj hk hn => ?_, fun j hj => ?_⟩, .ofAll (Nat.le_refl _) L (fun i h1 h2 => absurd h2 (Nat.not_lt.mpr h1)) (fun b o e => ?_) (fun b o e _ => e)⟩
 ·by_cases q : j = i
  ·subst q; rw [St.set_i]
   refine hr L ?_
   rw [eB]
   by_cases q : W.ρ j = W.σ j
   ·rw [if_pos q]; exact ⟨_, rfl⟩
   ·rw [if_neg q, if_pos rfl]; exact ⟨_, rfl⟩
  ·rw [St.set_f q]
   exact (I.own j hj).keep L (Nat.le_refl _) hj (fun _ _ _ e => e) kp
 ·by_cases q : j = i
  ·subst q; rw [St.set_i, hob] at hg'; exact ntC hg'
  ·rw [St.set_f q] at hg'
   obtain ⟨k1, k2, k3⟩ := I.inj j i hj hi q
   obtain ⟨k4, k5, k6⟩ := I.inj i j hi hj (Ne.symm q)
   rw [(eρ j).1, (eρ j).2, eB, eB, if_neg k2, if_neg k1, if_neg k3, if_neg k5.symm]; exact I.apart j hj hg'
 ·rw [(eρ j).1, (eρ j).2, (eρ k).1, (eρ k).2]; exact I.inj j k hj hk hn
 ·rw [(eρ j).1, (eρ j).2]; exact I.live j hj
 ·rcases Bq b o e with ⟨q, _⟩ | q
  ·exact .inr (.inl ⟨i, hi, q⟩)
  ·exact .inl q
theorem Inv.froze (I : Inv prog w b₀ W st h) {i : Nat} {oa od : Obj} (hi : i < st.n) (hg : isGone (st.f i) = false) (ha : h.get? (W.ρ i) = some oa) (hd : h.get? (W.σ i) = some od) :
  Inv prog w b₀ ((W.freeze (W.ρ i) oa).freeze (W.σ i) od) (st.set i .gone) h ∧ Step F W st h ((W.freeze (W.ρ i) oa).freeze (W.σ i) od) (st.set i .gone) h :=
 I.shut hi hg rfl ha hd fun _ _ => trivial
theorem Inv.locked (I : Inv prog w b₀ W st h) {i : Nat} {es : List (DK × V)} {oa od : Obj} (hi : i < st.n) (hf : st.f i = .dict es) (sm : ∃ o, b₀.get? sysModules = some o) (ha : h.get? (W.ρ i) = some oa) (hd : h.get? (W.σ i) = some od) :
  Inv prog w b₀ ((W.freeze (W.ρ i) oa).freeze (W.σ i) od) (st.set i (.ldict es)) h ∧ Step F W st h ((W.freeze (W.ρ i) oa).freeze (W.σ i) od) (st.set i (.ldict es)) h := by
 have hg : isGone (st.f i) = false := by rw [hf]; rfl
 refine I.shut hi hg rfl ha hd fun L hB => ?_
 have x := (I.own i hi).keep L (Nat.le_refl _) hi (fun _ _ _ e => e) fun b o e => ⟨I.sub b o e, I.sub b o e⟩
 rw [hf] at x
 refine ⟨x, hB, ?_⟩
 rw [beq_eq_false_iff_ne]
 intro q
 obtain ⟨o, q2⟩ := sm
 have := I.base _ _ q2
 rw [← q] at this
 have a1 := (I.apart i hi hg).1
 rw [show ((W.freeze (W.ρ i) oa).freeze (W.σ i) od).ρ i = W.ρ i from rfl, a1] at this
 exact noC this
end
structure Cx where
 loc : Str → Nat → Prop
 cell : Str → Nat → Prop
 up : Str → Nat → Prop
 glob : Str → Prop
structure FR (w : World) (W : Wd) (n : Nat) (env : Env) (cx : Cx) (loc up : Loc) (h : Heap) : Prop where
 kind : env.scope.kind = .function
 glob : env.globals = mainGlobals
 bi : env.builtins = builtinsNs
 ns : ∃ m, h.Ns env.locals m ∧ ∀ x i, cx.loc x i → ∀ v, loc i = some v → ∃ rv, m x = some rv ∧ RV w.params W n v rv
 kloc : ∀ x i, cx.loc x i → env.kindOf x = some .local
 kglob : ∀ x, cx.glob x → env.kindOf x = some .globalImplicit
 cell : ∀ x i, cx.cell x i → env.kindOf x = some .cell ∧ ∃ c o, env.cells.lookup x = some c ∧ h.IsCell c o ∧ ∀ v, loc i = some v → ∃ rv, o = some rv ∧ RV w.params W n v rv
 up : ∀ x i, cx.up x i → ∀ v, up i = some v → env.kindOf x = some .cell ∧ ∃ c rv, env.cells.lookup x = some c ∧ h.IsCell c (some rv) ∧ RV w.params W n v rv
 out : ¬ Owned W n env.locals ∧ W.B env.locals = none
 outc : ∀ x c, (x, c) ∈ env.cells → ¬ Owned W n c ∧ W.B c = none ∧ c ≠ env.locals ∧ ∃ o, h.IsCell c o
 apart : env.cells.Pairwise fun x y => x.2 ≠ y.2
noncomputable def HdOk (A : Around) (h : Heap) : Prop := ∀ e, A.handled = some e → ∃ ea o vs, e = .ref ea ∧ h.get? ea = some o ∧ o.data = .fields vs ∧ vs[2]? = some .none
structure SK (A : Around) (W : Wd) (n : Nat) (h : Heap) : Prop where
 fr : ∀ env ∈ framesOf A, env.scope.kind ≠ .module ∧ ∃ L, env.frame = some L ∧ (∃ o, h.get? L = some o ∧ isDictD o) ∧ ¬ Owned W n L ∧ W.B L = none
 hd : HdOk A h
 hdo : ∀ ea, A.handled = some (.ref ea) → ¬ Owned W n ea
structure Rm (n : Nat) (q : Bool) (A : Around) : Prop where
 depth : A.depth + 4 * n + 20 < recursionLimit
 units : A.units + 20 * n + 100 < cLine
 hd : q = true → A.handled = none
 frames : ∃ l, A.frames = some l
theorem Rm.in1 {n : Nat} {q : Bool} {A : Around} (R : Rm n q A) (k : Nat) (h : A.units + 20 * n + 100 + k < cLine) : A.in1.units + 20 * n + 100 ≤ A.units + 20 * n + 101 := by
 simp only [Around.in1_units]; omega
section
variable {prog : Program} {w : World} {b₀ : Heap} {W W' : Wd} {st st' : St} {h h' : Heap} {env : Env} {cx : Cx} {loc up : Loc} {A : Around}
theorem SK.step (K : SK A W st.n h) (S : Step (fAddrs A) W st h W' st' h') : SK A W' st'.n h' := by
 refine ⟨fun env he => ?_, fun e he => ?_, fun ea he => ?_⟩
 ·obtain ⟨k, L, hf, ⟨o, ho, hd⟩, h1, h2⟩ := K.fr env he
  obtain ⟨sl, q⟩ := S.slots _ _ ho h1
  exact ⟨k, L, hf, ⟨_, q, hd⟩, S.notOwned ho h1, S.notB ho h1 h2⟩
 ·obtain ⟨ea, o, vs, rfl, ho, hd, h2⟩ := K.hd e he
  exact ⟨ea, o, vs, rfl, S.exact _ _ ho (K.hdo ea he) (.inr (fun ⟨_, _, q⟩ => by rw [hd] at q; cases q)), hd, h2⟩
 ·obtain ⟨ea', o, vs, q, ho, hd, h2⟩ := K.hd _ he
  cases q
  exact S.notOwned ho (K.hdo ea he)
theorem IsCell_get {h : Heap} {c : Addr} {o : Option Value} (x : h.IsCell c o) : ∃ ob, h.get? c = some ob := let ⟨ob, e, _⟩ := x; ⟨ob, e⟩
theorem FR.step {Fs : List Addr} (F : FR w W st.n env cx loc up h) (S : Step Fs W st h W' st' h') : FR w W' st'.n env cx loc up h' := by
 obtain ⟨m, hn, hm⟩ := F.ns
 obtain ⟨o, es, ep, ho, r⟩ := id hn
 have key : ∀ {c : Addr} {v : Option Value}, h.IsCell c v → ¬ Owned W st.n c → h'.IsCell c v := fun {c v} x hc => let ⟨ob, e, d⟩ := x; ⟨ob, S.exact _ _ e hc (.inr fun ⟨_, _, q⟩ => by rw [d] at q; cases q), d⟩
 have mem : ∀ {x : Str} {c : Addr}, env.cells.lookup x = some c → (x, c) ∈ env.cells := fun e => mem_of_lookup e
 obtain ⟨sl, hq⟩ := S.slots _ _ ho F.out.1
 refine ⟨F.kind, F.glob, F.bi, ⟨m, ⟨_, es, ep, hq, r⟩, fun x i hx v hv => ?_⟩, F.kloc, F.kglob, fun x i hx => ?_, fun x i hx v hv => ?_, ⟨S.notOwned ho F.out.1, S.notB ho F.out.1 F.out.2⟩, fun x c hc => ?_, F.apart⟩
 ·obtain ⟨rv, e, R⟩ := hm x i hx v hv
  exact ⟨rv, e, R.mono S.le S.grow⟩
 ·obtain ⟨k, c, o, e, hc, hv⟩ := F.cell x i hx
  exact ⟨k, c, o, e, key hc (F.outc x c (mem e)).1, fun v q => let ⟨rv, e, R⟩ := hv v q; ⟨rv, e, R.mono S.le S.grow⟩⟩
 ·obtain ⟨k, c, rv, e, hc, R⟩ := F.up x i hx v hv
  exact ⟨k, c, rv, e, key hc (F.outc x c (mem e)).1, R.mono S.le S.grow⟩
 ·obtain ⟨h1, h2, h3, o, ho⟩ := F.outc x c hc
  obtain ⟨ob, e⟩ := IsCell_get ho
  exact ⟨S.notOwned e h1, S.notB e h1 h2, h3, o, key ho h1⟩
end
structure Md (w : World) (b₀ : Heap) (mg mb : Str → Option Value) : Prop where
 g : b₀.Ns mainGlobals mg
 b : b₀.Ns builtinsNs mb
 nolimit : b₀.NoLimit
 sm : ∃ o, b₀.get? sysModules = some o
noncomputable def GN (mg mb : Str → Option Value) (x : Str) (v : Value) : Prop := mg x = some v ∨ (mg x = none ∧ mb x = some v)
abbrev RlV (w : World) : Wd → Nat → V → Value → Prop := fun W n v rv => RV w.params W n v rv
abbrev RlVs (w : World) : Wd → Nat → List V → List Value → Prop := fun W n v rv => RVs w.params W n v rv
abbrev RlB : Wd → Nat → Bool → Bool → Prop := fun _ _ a b => a = b
section
variable {prog : Program} {w : World} {b₀ : Heap} {W : Wd} {st : St} {s : Shared} {env : Env} {cx : Cx} {loc up : Loc} {A : Around} {mg mb : Str → Option Value}
theorem Inv.base_in {h : Heap} (I : Inv prog w b₀ W st h) : ∀ b o, b₀.get? b = some o → h.get? b = some o := fun b o e => I.sub _ _ (I.base _ _ e)
theorem wp_glob {x : Str} {pos : Pos} {v : Value} {Q : Value → Shared → Prop} {E : Value → Shared → Prop} (MD : Md w b₀ mg mb) (I : Inv prog w b₀ W st s.heap) (F : FR w W st.n env cx loc up s.heap) (hx : cx.glob x) (hd : (x == ("__debug__" : Str)) = false) (g : GN mg mb x v) (h : Q v s) :
  wpAny (model prog w) A (eval (.Name x pos) env) Q E s := by
 have e1 : s.heap.Ns env.globals mg := by rw [F.glob]; exact MD.g.keeps I.base_in
 have e2 : s.heap.Ns env.builtins mb := by rw [F.bi]; exact MD.b.keeps I.base_in
 rcases g with g | ⟨g1, g2⟩
 ·exact Calls.Name_function_global F.kind (F.kglob x hx) (Calls.loadGlobal_global e1 g h) hd
 ·exact Calls.Name_function_global F.kind (F.kglob x hx) (Calls.loadGlobal_builtin e1 g1 e2 g2 h) hd
theorem sim_glob {x : Str} {pos : Pos} {gv : Value} {v : V} (MD : Md w b₀ mg mb) (I : Inv prog w b₀ W st s.heap) (F : FR w W st.n env cx loc up s.heap) (hx : cx.glob x) (hd : (x == ("__debug__" : Str)) = false) (g : GN mg mb x gv)
  (hv : ∀ W n, (∀ a o, b₀.get? a = some o → W.B a = some o) → RV w.params W n v gv) : Sim prog w b₀ A (eval (.Name x pos) env) W st s (RlV w) (M.pure v st) :=
 Sim.rule fun Q E hQ => wp_glob MD I F hx hd g (hQ gv W s.heap s.toks I (.refl _ _ _) (hv W st.n I.base))
theorem sim_loc {x : Str} {pos : Pos} {i : Nat} (I : Inv prog w b₀ W st s.heap) (F : FR w W st.n env cx loc up s.heap) (hx : cx.loc x i) (hd : (x == ("__debug__" : Str)) = false) :
  Sim prog w b₀ A (eval (.Name x pos) env) W st s (RlV w) (onO (loc i) M.pure st) := by
 unfold onO
 cases q : loc i with
 | none => exact Sim.nothing
 | some v =>
  obtain ⟨m, hn, hm⟩ := F.ns
  obtain ⟨rv, e, R⟩ := hm x i hx v q
  exact Sim.rule fun Q E hQ => wpAny_Name (wpAny_loadName_local F.kind (F.kloc x i hx) hn e (hQ rv W s.heap s.toks I (.refl _ _ _) R)) hd
theorem sim_cell {x : Str} {pos : Pos} {i : Nat} (I : Inv prog w b₀ W st s.heap) (F : FR w W st.n env cx loc up s.heap) (hx : cx.cell x i) (hd : (x == ("__debug__" : Str)) = false) :
  Sim prog w b₀ A (eval (.Name x pos) env) W st s (RlV w) (onO (loc i) M.pure st) := by
 unfold onO
 cases q : loc i with
 | none => exact Sim.nothing
 | some v =>
  obtain ⟨k, c, o, e, hc, hv⟩ := F.cell x i hx
  obtain ⟨rv, rfl, R⟩ := hv v q
  exact Sim.rule fun Q E hQ => wpAny_Name (wpAny_loadName_cell F.kind k e hc (hQ rv W s.heap s.toks I (.refl _ _ _) R)) hd
theorem sim_up {x : Str} {pos : Pos} {i : Nat} (I : Inv prog w b₀ W st s.heap) (F : FR w W st.n env cx loc up s.heap) (hx : cx.up x i) (hd : (x == ("__debug__" : Str)) = false) :
  Sim prog w b₀ A (eval (.Name x pos) env) W st s (RlV w) (onO (up i) M.pure st) := by
 unfold onO
 cases q : up i with
 | none => exact Sim.nothing
 | some v =>
  obtain ⟨k, c, rv, e, hc, R⟩ := F.up x i hx v q
  exact Sim.rule fun Q E hQ => wpAny_Name (wpAny_loadName_cell F.kind k e hc (hQ rv W s.heap s.toks I (.refl _ _ _) R)) hd
theorem sim_const_none {k : Nat} {pos : Pos} (I : Inv prog w b₀ W st s.heap) : Sim prog w b₀ A (eval (.Constant .none k pos) env) W st s (RlV w) (M.pure .nil st) :=
 Sim.rule fun _ _ hQ => wpAny_Constant_none (hQ _ W s.heap s.toks I (.refl _ _ _) rfl)
theorem sim_const_bool {b : Bool} {k : Nat} {pos : Pos} (I : Inv prog w b₀ W st s.heap) : Sim prog w b₀ A (eval (.Constant (.bool b) k pos) env) W st s (RlV w) (M.pure (.bool b) st) :=
 Sim.rule fun _ _ hQ => wpAny_Constant_bool (hQ _ W s.heap s.toks I (.refl _ _ _) rfl)
theorem sim_const_int {i : Int} {k : Nat} {pos : Pos} (I : Inv prog w b₀ W st s.heap) : Sim prog w b₀ A (eval (.Constant (.int i) k pos) env) W st s (RlV w) (M.pure (.int i) st) :=
 Sim.rule fun _ _ hQ => wpAny_Constant_int (hQ _ W s.heap (s.toks + 1) I (.refl _ _ _) (RV.int i _))
theorem sim_const_str {x : Str} {k : Nat} {pos : Pos} (I : Inv prog w b₀ W st s.heap) : Sim prog w b₀ A (eval (.Constant (.str x) k pos) env) W st s (RlV w) (M.pure (.str x) st) :=
 Sim.rule fun _ _ hQ => Calls.Constant_str (hQ _ W s.heap (s.toks + 1) I (.refl _ _ _) (RV.str x _))
end
end Mine
end
section
open PySem PySem.W PyProof.Rows PySem.Calls
namespace Mine
noncomputable def vname (i : Nat) : Str := Str.ofString (["k", "at", "self", "what", "places", "top", "numerals", "number", "text", "is_hex", "octets", "head", "generation", "value", "kind", "key", "part", "table", "trailer", "found", "here", "hop", "rows", "is_open", "kids", "target", "title", "marks", "quotes", "octet", "code", "sign", "units", "signs", "unit", "row", "heading", "headings", "total", "count", "deep", "item", "parent", "shelf", "root", "action", "way", "first", "seen", "place", "before", "owner", "below", "look", "digit", "many", "pool", "turn", "one", "taken", "due", "seats", "left", "other", "right", "olden", "script"].getD i "?")
noncomputable def vCount : Nat := 67
noncomputable def methName (m : Nat) : Str := Str.ofString (["pair", "fetch", "get", "put", "add", "numbers", "root", "note", "is_item", "row", "item"].getD m "?")
noncomputable def gfuns : List (Str × Addr) := [("kind_of", 265), ("told_plain", 272), ("told_objects", 277), ("accent_signs", 395), ("mark_signs", 402), ("sign_of", 409), ("octet_of", 416), ("units_of", 423), ("text_of_units", 430), ("octets_of", 435), ("text_of", 440), ("visible_count", 447), ("lay_items", 452), ("link_kids", 459), ("write_outline", 466), ("target_of", 473), ("title_of", 480), ("count_of", 487), ("headings_from", 494), ("outline_root", 501), ("read_outline", 508), ("is_place", 515), ("outline_faults", 571), ("_law_take", 579), ("_law_headings", 586), ("_law_seen", 591), ("_law_free", 598), ("_law_lay", 605), ("_law_alike", 612), ("_law_targets_right", 619), ("_law_chain_right", 626)]
noncomputable def gclss : List (Str × Nat) := [("Name", 0), ("String", 1), ("Reference", 2), ("Heading", 3), ("Shelf", 4), ("OutlineLook", 5)]
noncomputable def gtys : List (Str × Ty) := [("bool", .bool), ("int", .int), ("list", .list), ("dict", .dict), ("Decimal", .cls 155), ("Name", .cls 183), ("String", .cls 205), ("Stream", .cls 226), ("Reference", .cls 254)]
noncomputable def biVal : BI → Value
 | .lenB => .builtin "len" | .lenL => .builtin "len" | .range1 => .type "range" | .range3 => .type "range" | .abs => .builtin "abs" | .sum => .builtin "sum" | .sortL => .builtin "sorted" | .sortDI => .builtin "sorted" | .sortDS => .builtin "sorted" | .str => .type "str"
 | .dict => .type "dict" | .tuple => .type "tuple" | .bytesB => .type "bytes" | .bytesL => .type "bytes" | .ord => .builtin "ord" | .chr => .builtin "chr" | .listT => .type "list"
noncomputable def gbis : List (Str × Value) := [("len", .builtin "len"), ("range", .type "range"), ("abs", .builtin "abs"), ("sum", .builtin "sum"), ("sorted", .builtin "sorted"), ("str", .type "str"), ("dict", .type "dict"), ("tuple", .type "tuple"), ("bytes", .type "bytes"), ("ord", .builtin "ord"), ("chr", .builtin "chr"), ("list", .type "list"), ("isinstance", .builtin "isinstance"), ("TreeFault", .ref 59), ("Exception", .type "Exception"), ("_law_titles", .ref 572)]
noncomputable def titles : List Str := ["", "A", "Teil 1", "• €", "Žé", "αβ", "þÿ", "😀", "\n\t", "\x01"]
noncomputable def gints : List (Str × Int) := [("MOST_HOPS", 30), ("MOST_DEEP", 20), ("UNKNOWN", 65533)]
noncomputable def tagVal (t : Nat) : Value := if t < 6 then .type (["NoneType", "bool", "int", "str", "list", "dict"].getD t "") else .ref t
noncomputable def tyVal : Ty → Value
 | .bool => .type "bool" | .int => .type "int" | .list => .type "list" | .dict => .type "dict" | .cls a => .ref a
noncomputable def allTags : List Nat := [0, 1, 2, 3, 4, 5, 183, 205, 254, 384, 363, 560]
noncomputable def allTys : List Ty := [.bool, .int, .list, .dict, .cls 155, .cls 183, .cls 205, .cls 226, .cls 254]
noncomputable def tail59 : List Value := [.ref 46, .type "Exception", .type "BaseException", .type "object"]
section
variable (K : Frag)
noncomputable def fnAt (a : Addr) : Option FuncData := (K.lookup a).bind fun o => if o.cls == .type "function" then (match o.data with | .func f => some f | _ => none) else none
noncomputable def gval (x : Str) : Option Value := (nsIn K mainGlobals x).bind fun o => match o with
 | some v => some v
 | none => bootBuiltins x
noncomputable def isIntV (i : Int) : Value → Bool | .int j _ => decide (j = i) | _ => false
noncomputable def isBytV (l : List Nat) : Value → Bool | .bytes b _ => decide (b = bytesArr l) | _ => false
noncomputable def areStrs : List Value → List Str → Bool
 | [], [] => true
 | v :: vs, y :: ys => (match v with | .str x _ => decide (x = y) | _ => false) && areStrs vs ys
 | _, _ => false
noncomputable def isTup (o : Obj) : Option (List Value) := if o.cls == .type "tuple" && o.dict.isNone && o.slots.size == 0 then (match o.data with | .seq vs _ => some vs.toList | _ => none) else none
noncomputable def fieldOk (c f : Nat) : Bool := plainGet K (clsAddr c) (fname f) && (hasDictIn K (clsAddr c) && ((findIn K (.ref (clsAddr c)) (fname f) == some none) && (takerIn K (clsAddr c) (fname f) == some none)))
noncomputable def clsOk (c : Nat) : Bool := (findIn K (.ref (clsAddr c)) "__setattr__" == some (some (.builtin "object.__setattr__"))) && (plainOver K (clsAddr c) && (hasDictIn K (clsAddr c) && (plainGet K (clsAddr c) "__class__" && ((findIn K (.ref (clsAddr c)) "__class__" == some (some (.builtin "object.__class__"))) && ((mroIn K (clsAddr c) (.type "object") == some true) && ((fieldsOf c).all fun f => fieldOk K c f))))))
noncomputable def methOk (p : Nat × Nat × Addr) : Bool := plainGet K (clsAddr p.1) (methName p.2.1) && ((findIn K (.ref (clsAddr p.1)) (methName p.2.1) == some (some (.ref p.2.2))) && (isFn K (.ref p.2.2) && keepIn K (.ref p.2.2)))
noncomputable def exCls (o : Obj) : Bool := o.cls == .type "type" && ((match o.data with | .cls c => decide (c.mro = .ref 59 :: tail59) && (!c.hasDel && c.hasDict) | _ => false) && ((o.slots.size == 6) && (o.slots[4]? == some (some (.builtin "Exception.__new__")))))
structure KX (b₀ : Heap) : Prop where
 inn : K.In b₀
 kits : (allTags.all fun t => allTys.all fun ty => kitOne K (tagVal t) (tyVal ty) == isTag t ty) = true
 kget : (specialIn K (.builtin "object.__class__") "__get__" == some (some (.builtin "getset_descriptor.__get__"))) = true
 ktakes : (takesIn K (.builtin "object.__class__") == some true) = true
 clss : ((List.range 6).all fun c => clsOk K c) = true
 funs : (gfuns.all fun p => (gval K p.1 == some (.ref p.2)) && keepIn K (.ref p.2)) = true
 gcls : (gclss.all fun p => (gval K p.1 == some (.ref (clsAddr p.2))) && keepIn K (.ref (clsAddr p.2))) = true
 tys : (gtys.all fun p => gval K p.1 == some (tyVal p.2)) = true
 bis : (gbis.all fun p => gval K p.1 == some p.2) = true
 nums : (gints.all fun p => (gval K p.1).any (isIntV p.2)) = true
 mark : (gval K "MARK").any (isBytV [254, 255]) = true
 ttl : ((K.lookup 572).bind isTup).any (fun vs => areStrs vs titles) = true
 mth : (meths.all fun p => methOk K p) = true
 exm : (exmOne K (.ref 59) (.ref 59) == some true) = true
 exc : (K.lookup 59).any exCls = true
 exi : (findIn K (.ref 59) "__init__" == some (some (.ref 36))) = true
 exd : (findIn K (.ref 59) "__setattr__" == some (some (.builtin "object.__setattr__"))) = true
 exo : (subIn K (.ref 59) (.type "object") == some true) = true
 ext : (takerIn K 59 "what" == some none) = true
 exa : (takerIn K 59 "at" == some none) = true
 exf : (match findCls K (.type "Exception") (.type "type") "__init__" with | some (.val b) => b == .builtin "Exception.__init__" | _ => false) = true
noncomputable def kOk : Bool :=
 (allTags.all fun t => allTys.all fun ty => kitOne K (tagVal t) (tyVal ty) == isTag t ty) &&
 ((specialIn K (.builtin "object.__class__") "__get__" == some (some (.builtin "getset_descriptor.__get__"))) &&
 ((takesIn K (.builtin "object.__class__") == some true) &&
 (((List.range 6).all fun c => clsOk K c) &&
 ((gfuns.all fun p => (gval K p.1 == some (.ref p.2)) && keepIn K (.ref p.2)) &&
 ((gclss.all fun p => (gval K p.1 == some (.ref (clsAddr p.2))) && keepIn K (.ref (clsAddr p.2))) &&
 ((gtys.all fun p => gval K p.1 == some (tyVal p.2)) &&
 ((gbis.all fun p => gval K p.1 == some p.2) &&
 ((gints.all fun p => (gval K p.1).any (isIntV p.2)) &&
 ((gval K "MARK").any (isBytV [254, 255]) &&
 (((K.lookup 572).bind isTup).any (fun vs => areStrs vs titles) &&
 ((meths.all fun p => methOk K p) &&
 ((exmOne K (.ref 59) (.ref 59) == some true) &&
 ((K.lookup 59).any exCls &&
 ((findIn K (.ref 59) "__init__" == some (some (.ref 36))) &&
 ((findIn K (.ref 59) "__setattr__" == some (some (.builtin "object.__setattr__"))) &&
 ((subIn K (.ref 59) (.type "object") == some true) &&
 ((takerIn K 59 "what" == some none) &&
 ((takerIn K 59 "at" == some none) &&
 (match findCls K (.type "Exception") (.type "type") "__init__" with | some (.val b) => b == .builtin "Exception.__init__" | _ => false)))))))))))))))))))
theorem KX.of {b₀ : Heap} (X : K.In b₀) (h : kOk K = true) : KX K b₀ := by
 unfold kOk at h
 iterate 19 rw [Bool.and_eq_true] at h
 obtain ⟨h1, h2, h3, h4, h5, h6, h7, h8, h9, h10, h11, h12, h13, h14, h15, h16, h17, h18, h19, h20⟩ := h
 exact ⟨X, h1, h2, h3, h4, h5, h6, h7, h8, h9, h10, h11, h12, h13, h14, h15, h16, h17, h18, h19, h20⟩
end
theorem fname_inj {f g : Nat} (hf : f < 14) (hg : g < 14) (h : fname f = fname g) : f = g := by
 have : ∀ f : Fin 14, ∀ g : Fin 14, fname f.val = fname g.val → f = g := by decide +kernel
 exact congrArg Fin.val (this ⟨f, hf⟩ ⟨g, hg⟩ h)
theorem fields_cls {c f : Nat} (h : f ∈ fieldsOf c) : c < 6 := by
 refine Nat.lt_of_not_le fun q => ?_
 unfold fieldsOf at h
 rw [List.getD_eq_getElem?_getD, List.getElem?_eq_none q] at h
 cases h
theorem fields_lt {c f : Nat} (h : f ∈ fieldsOf c) : f < 14 ∧ (fieldsOf c).length ≤ 4 := by
 have : ∀ c : Fin 6, ((fieldsOf c.val).all fun f => decide (f < 14)) = true ∧ (fieldsOf c.val).length ≤ 4 := by decide +kernel
 obtain ⟨h1, h2⟩ := this ⟨c, fields_cls h⟩
 exact ⟨odt (List.all_eq_true.mp h1 f h), h2⟩
theorem fieldIdx_mem {c f i : Nat} (hi : fieldIdx c f = some i) : f ∈ fieldsOf c ∧ (fieldsOf c)[i]? = some f := by
 obtain ⟨hlt, hp, _⟩ := List.findIdx?_eq_some_iff_getElem.mp hi
 have e := beq_iff_eq.mp hp
 exact ⟨e ▸ List.getElem_mem hlt, by rw [List.getElem?_eq_getElem hlt, e]⟩
section
variable {P : Params} {f : Nat}
theorem isStr_fname {g : Nat} {t : Tok} : (Value.str (fname f) t).isStr (fname g) = decide (fname f = fname g) := rfl
theorem EntOk.noRef : ∀ {es : List DictEntry} {cs : List Nat}, EntOk P es cs → es.any (·.refKey) = false := by
 intro es
 induction es with
 | nil => intro cs _; rfl
 | cons e es ih => intro cs h; obtain ⟨f, cs', t, rv, rfl, rfl, h⟩ := h; rw [List.any_cons, ih h]; rfl
theorem EntOk.found (hf : f < 14) {es : List DictEntry} : ∀ {cs : List Nat} {i : Nat} {en : DictEntry}, EntOk P es cs → (∀ c ∈ cs, c < 14) → cs.findIdx? (· == f) = some i → es[i]? = some en → es.find? (·.key.isStr (fname f)) = some en := by
 induction es with
 | nil => intro cs i en _ _ _ e; rw [List.getElem?_nil] at e; cases e
 | cons e es ih =>
  intro cs i en h hc hi he
  obtain ⟨g, cs', t, rv, rfl, rfl, h⟩ := h
  rw [List.findIdx?_cons] at hi
  rw [List.find?_cons]
  by_cases q : g = f
  ·rw [if_pos (beq_iff_eq.mpr q)] at hi
   cases hi; cases he
   rw [isStr_fname, q, decide_eq_true rfl]
  ·rw [if_neg (fun z => q (beq_iff_eq.mp z))] at hi
   obtain ⟨j, hj, rfl⟩ := mapS hi
   rw [isStr_fname, decide_eq_false fun z => q (fname_inj (hc g (.head _)) hf z)]
   exact ih h (fun c m => hc c (.tail _ m)) hj he
theorem EntOk.miss (hf : f < 14) {es : List DictEntry} : ∀ {cs : List Nat}, EntOk P es cs → (∀ c ∈ cs, c < 14) → cs.findIdx? (· == f) = some es.length → es.any (·.key.isStr (fname f)) = false := by
 induction es with
 | nil => intro cs _ _ _; rfl
 | cons e es ih =>
  intro cs h hc hi
  obtain ⟨g, cs', t, rv, rfl, rfl, h⟩ := h
  rw [List.findIdx?_cons] at hi
  by_cases q : g = f
  ·rw [if_pos (beq_iff_eq.mpr q)] at hi; cases hi
  ·rw [if_neg (fun z => q (beq_iff_eq.mp z))] at hi
   obtain ⟨j, hj, e1⟩ := mapS hi
   cases Nat.succ.inj e1
   rw [List.any_cons, ih h (fun c m => hc c (.tail _ m)) hj, isStr_fname, decide_eq_false fun z => q (fname_inj (hc g (.head _)) hf z)]; rfl
theorem EntOk.snoc {t : Tok} {rv : Value} {es : List DictEntry} : ∀ {cs : List Nat}, EntOk P es cs → cs[es.length]? = some f → EntOk P (es ++ [⟨PyData.keyHash P (fname f), .str (fname f) t, rv⟩]) cs := by
 induction es with
 | nil =>
  intro cs _ e
  cases cs with
  | nil => cases e
  | cons c cs => cases e; exact ⟨f, cs, t, rv, rfl, rfl, trivial⟩
 | cons e es ih => intro cs h e'; obtain ⟨g, cs', t, rv, rfl, e2, h⟩ := h; exact ⟨g, cs', t, rv, rfl, e2, ih h e'⟩
theorem putL_new (name : Str) (hs : Int) (key v : Value) : ∀ es : List DictEntry, es.any (·.key.isStr name) = false → putL name hs key v es = es ++ [⟨hs, key, v⟩] := by
 intro es
 induction es with
 | nil => intro _; rfl
 | cons e r ih =>
  intro h
  rw [List.any_cons, Bool.or_eq_false_iff] at h
  unfold putL
  rw [h.1, ih h.2]; rfl
theorem RV.handed {W : Wd} {n : Nat} {v : V} {rv : Value} (h : RV P W n v rv) : handedIn rv = true := by
 cases v with
 | nil => cases h; rfl
 | bool b => cases h; rfl
 | int i => obtain ⟨t, rfl⟩ := h; rfl
 | str s => obtain ⟨t, rfl⟩ := h; rfl
 | bytes l => obtain ⟨t, rfl, _⟩ := h; rfl
 | obj c fs => obtain ⟨a, d, es, k, rfl, _⟩ := h; rfl
 | tup xs => obtain ⟨a, vs, k, rfl, _⟩ := h; rfl
 | lst xs => obtain ⟨a, vs, o, rfl, _⟩ := h; rfl
 | rng a b s => obtain ⟨r, t, u, v, rfl, _⟩ := h; rfl
 | ref i => cases h.1; rfl
end
theorem Ob.ofList {o : Ob} {xs : List V} (h : o.list? = some xs) : o = .list xs := by cases o <;> cases h; rfl
theorem Ob.ofDict {o : Ob} {xs : List (DK × V)} (h : o.dict? = some xs) : o = .dict xs := by cases o <;> cases h; rfl
theorem Ob.ofLdict {o : Ob} {xs : List (DK × V)} (h : o.ldict? = some xs) : o = .ldict xs := by cases o <;> cases h; rfl
theorem Ob.ofInst {o : Ob} {c : Nat} {xs : List V} (h : o.inst? = some (c, xs)) : o = .inst c xs := by cases o <;> cases h; rfl
abbrev RlU : Wd → Nat → Unit → Unit → Prop := fun _ _ _ _ => True
section
variable {prog : Program} {w : World} {b₀ : Heap} {K : Frag} {W : Wd} {st : St} {s : Shared} {A : Around}
theorem line_ten {n : Nat} (h : n ≤ 10000000) : n ≤ sizeLine := by rw [sizeLine_eq]; omega
theorem slot_real {v : V} {rv : Value} {p : Nat × Ob} (R : RV w.params W st.n v rv) (e : slotOf st v = some p) : rv = .ref (W.ρ p.1) ∧ p.1 < st.n ∧ st.f p.1 = p.2 := by
 obtain ⟨i, hi, rfl⟩ := mapS e
 obtain ⟨rfl, hn⟩ := R.ofRef hi
 exact ⟨rfl, hn, rfl⟩
theorem slotL_real {v : V} {rv : Value} {p : Nat × List V} (R : RV w.params W st.n v rv) (e : slotL st v = some p) : rv = .ref (W.ρ p.1) ∧ p.1 < st.n ∧ st.f p.1 = .list p.2 := by
 obtain ⟨q, hq, e⟩ := bndS e
 obtain ⟨xs, hx, rfl⟩ := mapS e
 obtain ⟨rfl, hn, hf⟩ := slot_real R hq
 exact ⟨rfl, hn, hf.trans (Ob.ofList hx)⟩
theorem listOf_real {v : V} {rv : Value} {xs : List V} (I : Inv prog w b₀ W st s.heap) (R : RV w.params W st.n v rv) (e : listOf st v = some xs) :
  ∃ a vs, rv = .ref a ∧ s.heap.IsList a vs.toArray ∧ RVs w.params W st.n xs vs ∧ ∀ o, s.heap.get? a = some o → o.dict = none ∧ o.slots = #[] := by
 unfold listOf at e
 cases hl : v.lst? with
 | some ys =>
  rw [hl] at e
  cases e
  obtain ⟨a, vs, o, rfl, h1, ⟨⟨h2, h2'⟩, h3⟩, h4⟩ := R.ofLst hl
  have h1' := I.sub _ _ h1
  exact ⟨a, vs, rfl, ⟨o, h1', h2, h2'⟩, h4, fun o' q => by rw [h1'] at q; cases q; exact h3⟩
 | none =>
  rw [hl] at e
  obtain ⟨p, hp, e⟩ := bndS e
  obtain ⟨rfl, hn, hf⟩ := slot_real R hp
  have ho := I.own _ hn
  rw [hf, Ob.ofList e] at ho
  obtain ⟨vs, h1, h2, h3⟩ := ho
  exact ⟨_, vs, rfl, h1, h2, h3⟩
theorem inst_real {v : V} {rv : Value} {c : Nat} {fs : List V} (I : Inv prog w b₀ W st s.heap) (R : RV w.params W st.n v rv) (e : instOf st v = some (c, fs)) :
  ∃ a d es k, rv = .ref a ∧ s.heap.get? a = some (instObj (clsAddr c) d) ∧ s.heap.get? d = some (dictOf es k) ∧ RFs w.params W st.n (fieldsOf c) fs es := by
 unfold instOf at e
 rcases Option.or_eq_some_iff.mp e with e | ⟨_, e⟩
 ·obtain ⟨a, d, es, k, rfl, h1, h2, h3⟩ := R.ofObj e
  exact ⟨a, d, es, k, rfl, I.sub _ _ h1, I.sub _ _ h2, h3⟩
 ·obtain ⟨p, hp, e1⟩ := mapS e
  obtain ⟨q, hq, e⟩ := bndS hp
  obtain ⟨z, hx, rfl⟩ := mapS e
  cases e1
  obtain ⟨rfl, hn, hf⟩ := slot_real R hq
  have ho := I.own _ hn
  rw [hf, Ob.ofInst hx] at ho
  obtain ⟨es, k, h1, h2, h3⟩ := ho
  exact ⟨_, _, es, k, rfl, h1, h2, h3⟩
theorem KX.cls (X : KX K b₀) {c : Nat} (hc : c < 6) : clsOk K c = true := List.all_eq_true.mp X.clss c (List.mem_range.mpr hc)
theorem KX.In (X : KX K b₀) {h : Heap} (I : Inv prog w b₀ W st h) : K.In h := X.inn.keeps I.base_in
theorem instAt_obj {h : Heap} {a d c k : Nat} {es : List DictEntry} (h1 : h.get? a = some (instObj (clsAddr c) d)) (h2 : h.get? d = some (dictOf es k)) : InstAt h a (instObj (clsAddr c) d) (clsAddr c) (some (dictOf es k)) :=
 ⟨h1, rfl, rfl, h2⟩
theorem KX.field (X : KX K b₀) {c f : Nat} (h : f ∈ fieldsOf c) : fieldOk K c f = true := by
 have := X.cls (fields_cls h)
 unfold clsOk at this
 iterate 6 (replace this := (andS this).2)
 exact List.all_eq_true.mp this f h
theorem sim_val {t : Sem Value} {v : V} (I : Inv prog w b₀ W st s.heap) (h : ∀ (Q : Value → Shared → Prop) (E : Value → Shared → Prop), (∀ rv tk, RV w.params W st.n v rv → Q rv ⟨s.heap, s.gens, s.drawn, tk, s.os⟩) → wpAny (model prog w) A t Q E s) :
  Sim prog w b₀ A t W st s (RlV w) (some (.ok v, st)) :=
 Sim.rule fun Q E hQ => h Q E fun rv tk R => hQ rv W s.heap tk I (.refl _ _ _) R
theorem sim_bool {t : Sem Value} {b : Bool} (I : Inv prog w b₀ W st s.heap) (h : ∀ (Q : Value → Shared → Prop) (E : Value → Shared → Prop), (∀ tk, Q (.bool b) ⟨s.heap, s.gens, s.drawn, tk, s.os⟩) → wpAny (model prog w) A t Q E s) :
  Sim prog w b₀ A t W st s (fun _ _ b rv => rv = .bool b) (some (.ok b, st)) :=
 Sim.rule fun Q E hQ => h Q E fun tk => hQ _ W s.heap tk I (.refl _ _ _) rfl
theorem sim_attr {v : V} {rv : Value} {f : Nat} {expr : Bool} (X : KX K b₀) (I : Inv prog w b₀ W st s.heap) (R : RV w.params W st.n v rv) : Sim prog w b₀ A (getAttr rv (fname f) expr) W st s (RlV w) (attrV v f st) := by
 refine Sim.onO fun p hp => Sim.onO fun i hi => Sim.onO fun u hu => ?_
 obtain ⟨a, d, es, k, rfl, h1, h2, h3, h4⟩ := inst_real I R hp
 obtain ⟨hm, _⟩ := fieldIdx_mem hi
 obtain ⟨ru, e, Ru⟩ := h4.get hu
 rw [List.getElem?_map] at e
 obtain ⟨en, he, rfl⟩ := mapS e
 have ok := X.field hm
 simp only [fieldOk, Bool.and_eq_true, beq_iff_eq] at ok
 have hg : getL (fname f) es = some (some en.val) := by unfold getL; rw [h3.found (fields_lt hm).1 (fun c m => (fields_lt m).1) hi he]
 exact sim_val I fun Q E hQ => get_value (X.In I) (instAt_obj h1 h2) (plainGet_of ok.1).1 (findObj_own ok.2.1 ok.2.2.1 rfl (by rw [lookIn_dict]; exact hg)) Ru.handed (hQ _ _ Ru)
theorem sim_setAttr {v x : V} {rv rx : Value} {f : Nat} (X : KX K b₀) (I : Inv prog w b₀ W st s.heap) (Rv : RV w.params W st.n v rv) (Rx : RV w.params W st.n x rx) :
  Sim prog w b₀ A (setAttr rv (fname f) rx) W st s RlU (setAttrV v f x st) := by
 refine Sim.onO fun p hp => Sim.onP fun hidx => ?_
 obtain ⟨q, hq, e⟩ := bndS hp
 obtain ⟨⟨c, fs⟩, hx, rfl⟩ := mapS e
 obtain ⟨rfl, hj, hf⟩ := slot_real Rv hq
 obtain ⟨j, ob⟩ := q
 dsimp only at hidx hj hf hx ⊢
 rw [Ob.ofInst hx] at hf
 have ho := I.own j hj
 rw [hf] at ho
 obtain ⟨es, k, h1, h2, h3, h4⟩ := ho
 have hlen : es.length = fs.length := by have := h4.length; rwa [List.length_map] at this
 obtain ⟨hm, hget⟩ := fieldIdx_mem hidx
 rw [← hlen] at hidx hget
 have K1 := X.cls (fields_cls hm)
 have K2 := X.field hm
 simp only [clsOk, Bool.and_eq_true, beq_iff_eq] at K1
 simp only [fieldOk, Bool.and_eq_true, beq_iff_eq] at K2
 have XK := X.In I
 have It := instAt_obj h1 h2
 refine Sim.rule fun Q E hQ => set_plain XK It K1.1 (osa_open (s := { s with toks := s.toks + 1 }) XK It K1.2.1 K2.2.2.2 fun b => ?_)
 obtain ⟨cd, hcd, hd'⟩ := any_some K1.2.2.1
 have hna := h3.miss (fields_lt hm).1 (fun c m => (fields_lt m).1) hidx
 have hsmall : es.length < 4 := ltl (List.findIdx?_eq_some_iff_getElem.mp hidx).1 (fields_lt hm).2
 have eput : Obj.putName (fname f) (PyData.keyHash w.params (fname f)) (.str (fname f) (s.toks + 1)) rx (dictOf es k) = dictOf (es ++ [⟨PyData.keyHash w.params (fname f), .str (fname f) (s.toks + 1), rx⟩]) (putN (fname f) es k) := by
  rw [putName_dict, putL_new _ _ _ _ _ hna]
 have hs : Heap.SameBut (W.σ j) s.heap (s.heap.update (W.σ j) (Obj.putName (fname f) (PyData.keyHash w.params (fname f)) (.str (fname f) (s.toks + 1)) rx)) := Heap.SameBut.update ..
 have hd2 : (s.heap.update (W.σ j) (Obj.putName (fname f) (PyData.keyHash w.params (fname f)) (.str (fname f) (s.toks + 1)) rx)).get? (W.σ j) = some (dictOf (es ++ [⟨PyData.keyHash w.params (fname f), .str (fname f) (s.toks + 1), rx⟩]) (putN (fname f) es k)) := by
  rw [← eput]; exact Heap.get?_update_self _ h2 (by rw [eput]; rfl)
 have hne : W.ρ j ≠ W.σ j := fun q => by rw [q, h2] at h1; cases h1
 have hd1 := (hs.2 _ hne).trans h1
 have XK' : K.In ({ s with toks := s.toks + 1 } : Shared).heap := XK
 refine wpAny_bind (wpAny_pure (wpAny_bind (wpAny_bind (wpAny_loadPart h1 (wpAny_bind ((looks_clsIn XK' hcd).here ?_))))))
 rw [hd']
 refine wpAny_pure (a := some (W.σ j)) (wpAny_bind (wpAny_pure (wpAny_bind ?_)))
 unfold nsSet
 refine wpAny_bind (wpAny_bind (wpAny_askSetting (wpAny_pure (wpAny_bind (wpAny_mkText (wpAny_bind (wpAny_loadPart h2 ?_)))))))
 have cnd : (!es.toArray.any (·.key.isStr (fname f)) && es.toArray.any (·.refKey)) = false := by
  rw [← Array.any_toList, ← Array.any_toList, List.toList_toArray, h3.noRef, Bool.and_false]
 show wpAny _ _ _ _ _ _
 dsimp only [dictOf]
 rw [aRefKeyMayBeTheName_at, cnd]
 refine wpAny_updatePart h2 ?_
 refine wpAny_bind (wpAny_lookBehind hd2 (pastItsLine_dict (by rw [List.size_toArray, sizeLine_eq, lApp]; exact Nat.le_trans (Nat.add_le_add_right (Nat.le_of_lt hsmall) 1) (by decide))) ?_)
 refine wpAny_pure ?_
 obtain ⟨I', S'⟩ := I.turned (ob := .inst c (fs ++ [x])) hj (by rw [hf]; rfl) (.inr rfl) hs ⟨_, hd2⟩ ⟨_, _, hd1, hd2, h3.snoc hget, by rw [List.map_append]; exact RVs.append (RVs.single Rx) h4⟩
 exact hQ () W _ _ I' S' trivial
theorem newList_at {h' : Heap} {a : Addr} {xs : List V} {vs : List Value} (I : Inv prog w b₀ W st s.heap) (R : RVs w.params W st.n xs vs) (hk : ∀ b o, s.heap.get? b = some o → h'.get? b = some o) (hn : s.heap.get? a = none) {k : Nat} (ha : h'.get? a = some { cls := .type "list", data := .seq vs.toArray k }) :
  ∃ W', Inv prog w b₀ W' (st.push (.list xs)) h' ∧ Step (fAddrs A) W st s.heap W' (st.push (.list xs)) h' ∧ RV w.params W' (st.n + 1) (.ref st.n) (.ref a) := by
 obtain ⟨I', S'⟩ := I.slotted (h' := h') (a := a) (d := a) (ob := .list xs) hk hn hn ⟨_, ha⟩ ⟨_, ha⟩ ⟨vs, by rw [Wd.slot_ρ]; exact ⟨_, ha, rfl, _, rfl⟩, R.mono W.le_slot (Nat.le_succ _), fun o q => by rw [Wd.slot_ρ, ha] at q; cases q; exact ⟨rfl, rfl⟩⟩
 exact ⟨_, I', S', by rw [Wd.slot_ρ], lts _⟩
theorem sim_newList {t : Sem Value} {xs : List V} {vs : List Value} (I : Inv prog w b₀ W st s.heap) (R : RVs w.params W st.n xs vs)
  (h : ∀ (Q : Value → Shared → Prop) (E : Value → Shared → Prop), (∀ tk, Q (.ref s.heap.objs.size) ⟨s.heap.push { cls := .type "list", data := .seq vs.toArray }, s.gens, s.drawn, tk, s.os⟩) → wpAny (model prog w) A t Q E s) :
  Sim prog w b₀ A t W st s (RlV w) (mPush (.list xs) st) := by
 refine Sim.rule fun Q E hQ => h Q E fun tk => ?_
 obtain ⟨W', I', S', R'⟩ := newList_at I R (fun b o e => Heap.get?_push_of_some _ e) (Heap.get?_none_of_le (Nat.le_refl _)) (k := 0) (Heap.get?_push_size (h := s.heap) (o := { cls := .type "list", data := .seq vs.toArray }) rfl)
 exact hQ _ W' _ tk I' S' R'
theorem newTup_at {h' : Heap} {a : Addr} {xs : List V} {vs : List Value} {k : Nat} (I : Inv prog w b₀ W st s.heap) (R : RVs w.params W st.n xs vs) (hk : ∀ b o, s.heap.get? b = some o → h'.get? b = some o) (hn : s.heap.get? a = none) (ha : h'.get? a = some { cls := .type "tuple", data := .seq vs.toArray k }) :
  ∃ W', Inv prog w b₀ W' st h' ∧ Step (fAddrs A) W st s.heap W' st h' ∧ RV w.params W' st.n (.tup xs) (.ref a) := by
 obtain ⟨I', S'⟩ := I.frozen hk hn ha
 exact ⟨_, I', S', .tup (k := k) (if_pos rfl) (R.mono S'.le (Nat.le_refl _))⟩
theorem sim_newTup {t : Sem Value} {xs : List V} {vs : List Value} (I : Inv prog w b₀ W st s.heap) (R : RVs w.params W st.n xs vs)
  (h : ∀ (Q : Value → Shared → Prop) (E : Value → Shared → Prop), (∀ tk, Q (.ref s.heap.objs.size) ⟨s.heap.push { cls := .type "tuple", data := .seq vs.toArray }, s.gens, s.drawn, tk, s.os⟩) → wpAny (model prog w) A t Q E s) :
  Sim prog w b₀ A t W st s (RlV w) (some (.ok (.tup xs), st)) := by
 refine Sim.rule fun Q E hQ => h Q E fun tk => ?_
 obtain ⟨W', I', S', R'⟩ := newTup_at I R (fun b o e => Heap.get?_push_of_some _ e) (Heap.get?_none_of_le (Nat.le_refl _)) (k := 0) (Heap.get?_push_size (h := s.heap) (o := { cls := .type "tuple", data := .seq vs.toArray }) rfl)
 exact hQ _ W' _ tk I' S' R'
end
end Mine
end
section
open PySem PySem.W PyProof.Rows PySem.Calls PySem.SeqAt
namespace Mine
inductive OptR {α β : Type} (R : α → β → Prop) : Option α → Option β → Prop
 | none : OptR R none none
 | some {a : α} {b : β} (h : R a b) : OptR R (some a) (some b)
theorem OptR.isSome {α β : Type} {R : α → β → Prop} {a : Option α} {b : Option β} (h : OptR R a b) : b.isSome = a.isSome := by cases h <;> rfl
theorem OptR.at {α β : Type} {R : α → β → Prop} {a : Option α} {b : Option β} {x : α} (h : OptR R a b) (e : a = Option.some x) : ∃ y, b = Option.some y ∧ R x y := by
 cases h with
 | none => exact noC e
 | some h => (obtain rfl := inj1 e); exact ⟨_, rfl, h⟩
theorem OptR.getD {α β : Type} {R : α → β → Prop} {a : Option α} {b : Option β} {x : α} {y : β} (h : OptR R a b) (e : R x y) : R (a.getD x) (b.getD y) := by cases h <;> assumption
section
variable {P : Params} {W : Wd} {n : Nat} {K : Type} [DecidableEq K] {f : K → DK}
theorem DP.find (hf : ∀ a b, f a = f b → a = b) (k : K) {es : List (DK × V)} : ∀ {kvs : List (K × Value)}, DP P W n f es kvs → OptR (RV P W n) (dGet es (f k)) (valueAt kvs k) := by
 induction es with
 | nil => intro kvs h; (obtain rfl := (h : _ = _)); exact .none
 | cons e es ih =>
  intro kvs h
  obtain ⟨k', rv, r, rfl, e1, h1, h2⟩ := h
  have ih := ih h2
  unfold dGet valueAt at ih ⊢
  rw [List.find?_cons, List.find?_cons, e1]
  by_cases q : k' = k
  ·rw [q, decide_eq_true rfl, decide_eq_true rfl]; exact .some h1
  ·rw [decide_eq_false fun z => q (hf _ _ z), decide_eq_false q]; exact ih
theorem DP.length {es : List (DK × V)} : ∀ {kvs : List (K × Value)}, DP P W n f es kvs → kvs.length = es.length := by
 induction es with
 | nil => intro kvs h; (obtain rfl := (h : _ = _)); rfl
 | cons e es ih => intro kvs h; obtain ⟨k', rv, r, rfl, e1, h1, h2⟩ := h; exact congrArg (· + 1) (ih h2)
theorem DP.any (hf : ∀ a b, f a = f b → a = b) (k : K) {es : List (DK × V)} : ∀ {kvs : List (K × Value)}, DP P W n f es kvs → (es.any fun e => decide (e.1 = f k)) = kvs.any fun kv => decide (kv.1 = k) := by
 induction es with
 | nil => intro kvs h; (obtain rfl := (h : _ = _)); rfl
 | cons e es ih =>
  intro kvs h
  obtain ⟨k', rv, r, rfl, e1, h1, h2⟩ := h
  rw [List.any_cons, List.any_cons, ih h2, e1]
  congr 1
  exact decide_eq_decide.mpr ⟨hf _ _, congrArg f⟩
theorem DP.map (hf : ∀ a b, f a = f b → a = b) (k : K) {v : V} {rv : Value} (R : RV P W n v rv) {es : List (DK × V)} : ∀ {kvs : List (K × Value)}, DP P W n f es kvs →
  DP P W n f (es.map fun e => if e.1 = f k then (e.1, v) else e) (kvs.map fun kv => if kv.1 = k then (kv.1, rv) else kv) := by
 induction es with
 | nil => intro kvs h; (obtain rfl := (h : _ = _)); rfl
 | cons e es ih =>
  intro kvs h
  obtain ⟨k', rv', r, rfl, e1, h1, h2⟩ := h
  rw [List.map_cons, List.map_cons, e1]
  by_cases q : k' = k
  ·rw [if_pos (congrArg f q), if_pos q]; exact ⟨k', rv, _, rfl, rfl, R, ih h2⟩
  ·rw [if_neg fun z => q (hf _ _ z), if_neg q]; exact ⟨k', rv', _, rfl, e1, h1, ih h2⟩
theorem DP.snoc {k : K} {v : V} {rv : Value} (R : RV P W n v rv) {es : List (DK × V)} : ∀ {kvs : List (K × Value)}, DP P W n f es kvs → DP P W n f (es ++ [(f k, v)]) (kvs ++ [(k, rv)]) := by
 induction es with
 | nil => intro kvs h; (obtain rfl := (h : _ = _)); exact ⟨k, rv, [], rfl, rfl, R, rfl⟩
 | cons e es ih => intro kvs h; obtain ⟨k', rv', r, rfl, e1, h1, h2⟩ := h; exact ⟨k', rv', _, rfl, e1, h1, ih h2⟩
theorem DP.put (hf : ∀ a b, f a = f b → a = b) (k : K) {v : V} {rv : Value} (R : RV P W n v rv) {es : List (DK × V)} {kvs : List (K × Value)} (x : DP P W n f es kvs) :
  DP P W n f (dSet es (f k) v) (stored kvs k rv) := by
 unfold dSet stored
 rw [x.any hf k]
 by_cases q : (kvs.any fun kv => decide (kv.1 = k)) = true
 ·rw [if_pos q, if_pos q]; exact x.map hf k R
 ·rw [if_neg q, if_neg q]; exact x.snoc R
end
theorem dk_p {x y a b : Int} : DK.p x y = DK.p a b ↔ [x, y] = [a, b] := ⟨fun e => by cases e; rfl, fun e => by cases e; rfl⟩
section
variable {P : Params} {W : Wd} {n : Nat}
theorem DPp.find (a b : Int) {es : List (DK × V)} : ∀ {kvs : List (List Int × Addr × Value)}, DPp P W n es kvs → OptR (fun v (p : Addr × Value) => RV P W n v p.2) (dGet es (.p a b)) (atKey kvs [a, b]) := by
 induction es with
 | nil => intro kvs h; (obtain rfl := (h : _ = _)); exact .none
 | cons e es ih =>
  intro kvs h
  obtain ⟨x, y, ad, rv, r, rfl, e1, h1, _, h2⟩ := h
  have ih := ih h2
  unfold dGet atKey at ih ⊢
  rw [List.find?_cons, List.find?_cons, e1]
  by_cases q : [x, y] = [a, b]
  ·rw [decide_eq_true (dk_p.mpr q), decide_eq_true q]; exact .some h1
  ·rw [decide_eq_false fun z => q (dk_p.mp z), decide_eq_false q]; exact ih
theorem DPp.length {es : List (DK × V)} : ∀ {kvs : List (List Int × Addr × Value)}, DPp P W n es kvs → kvs.length = es.length := by
 induction es with
 | nil => intro kvs h; (obtain rfl := (h : _ = _)); rfl
 | cons e es ih => intro kvs h; obtain ⟨x, y, ad, rv, r, rfl, e1, h1, _, h2⟩ := h; exact congrArg (· + 1) (ih h2)
theorem DPp.put (a b : Int) {v : V} {rv : Value} {ad : Addr} {o : Obj} (R : RV P W n v rv) (hB : W.B ad = some o) {es : List (DK × V)} {kvs : List (List Int × Addr × Value)} (x : DPp P W n es kvs) :
  DPp P W n (dSet es (.p a b) v) (storedH kvs [a, b] ad rv) := by
 have any : ∀ {es : List (DK × V)} {kvs : List (List Int × Addr × Value)}, DPp P W n es kvs → (es.any fun e => decide (e.1 = DK.p a b)) = (atKey kvs [a, b]).isSome := by
  intro es
  induction es with
  | nil => intro kvs h; (obtain rfl := (h : _ = _)); rfl
  | cons e es ih =>
   intro kvs h
   obtain ⟨x, y, ad, rv, r, rfl, e1, h1, _, h2⟩ := h
   have ih := ih h2
   unfold atKey at ih ⊢
   rw [List.find?_cons, List.any_cons, ih, e1]
   by_cases q : [x, y] = [a, b]
   ·rw [decide_eq_true (dk_p.mpr q), decide_eq_true q]; rfl
   ·rw [decide_eq_false fun z => q (dk_p.mp z), decide_eq_false q]; rfl
 unfold dSet storedH
 rw [any x]
 by_cases q : (atKey kvs [a, b]).isSome = true
 ·rw [if_pos q, if_pos q]
  clear any q
  revert kvs
  induction es with
  | nil => intro kvs h; (obtain rfl := (h : _ = _)); rfl
  | cons e es ih =>
   intro kvs h
   obtain ⟨x, y, ad', rv', r, rfl, e1, h1, h0, h2⟩ := h
   rw [List.map_cons, List.map_cons, e1]
   unfold putAt
   by_cases q : [x, y] = [a, b]
   ·rw [if_pos (dk_p.mpr q), if_pos q]; exact ⟨x, y, ad', rv, _, rfl, rfl, R, h0, ih h2⟩
   ·rw [if_neg fun z => q (dk_p.mp z), if_neg q]; exact ⟨x, y, ad', rv', _, rfl, e1, h1, h0, ih h2⟩
 ·rw [if_neg q, if_neg q]
  clear any q
  revert kvs
  induction es with
  | nil => intro kvs h; (obtain rfl := (h : _ = _)); exact ⟨a, b, ad, rv, [], rfl, rfl, R, ⟨o, hB⟩, rfl⟩
  | cons e es ih => intro kvs h; obtain ⟨x, y, ad', rv', r, rfl, e1, h1, h0, h2⟩ := h; exact ⟨x, y, ad', rv', _, rfl, e1, h1, h0, ih h2⟩
end
section
variable {prog : Program} {w : World} {b₀ : Heap} {W : Wd} {st : St} {s : Shared} {A : Around} {n : Nat} {h : Heap} {a : Addr} {es : List (DK × V)}
theorem DRel.at (x : DRel prog w W n h a es) : ∃ o, h.get? a = some o ∧ o.cls = .type "dict" := by
 cases x with
 | s kvs hd hv => obtain ⟨o, _, _, h1, h2, _⟩ := hd; exact ⟨o, h1, h2.1⟩
 | i kvs hd hv => obtain ⟨o, _, _, h1, h2, _⟩ := hd; exact ⟨o, h1, h2.1⟩
 | p xs hd hv => obtain ⟨o, _, _, h1, h2, _⟩ := hd; exact ⟨o, h1, h2.1⟩
theorem DRel.slotted (x : DRel prog w W n h a es) : ∃ o, h.get? a = some o := let ⟨o, h, _⟩ := x.at; ⟨o, h⟩
theorem empty_dict {K : Type} [DecidableEq K] {knd : KeyKind prog w K} (x : ∃ o ep, h.get? a = some o ∧ o.ExactDict ∧ o.data = .dict #[] ep) : h.DictOf knd a [] :=
 let ⟨o, ep, h1, h2, h3⟩ := x; ⟨o, #[], ep, h1, h2, h3, fun e he => by simp at he, .nil, .nil⟩
theorem dict_empty {K : Type} [DecidableEq K] {knd : KeyKind prog w K} (x : h.DictOf knd a []) : ∃ o ep, h.get? a = some o ∧ o.ExactDict ∧ o.data = .dict #[] ep := by
 obtain ⟨o, es, ep, h1, h2, h3, h4, h5, h6⟩ := x
 have : es = #[] := by have := h5.length; simpa using this
 subst this
 exact ⟨o, ep, h1, h2, h3⟩
theorem DRel.empty (x : DRel prog w W n h a []) : ∃ o ep, h.get? a = some o ∧ o.ExactDict ∧ o.data = .dict #[] ep := by
 cases x with
 | s kvs hd hv => (obtain rfl := (hv : _ = _)); exact dict_empty hd
 | i kvs hd hv => (obtain rfl := (hv : _ = _)); exact dict_empty hd
 | p kvs hd hv =>
  obtain rfl := (hv : _ = _)
  obtain ⟨o, es, ep, h1, h2, h3, h4, h5, h6⟩ := hd
  have : es = #[] := by simpa using h4
  subst this
  exact ⟨o, ep, h1, h2, h3⟩
noncomputable def DOf (prog : Program) (w : World) (W : Wd) (n : Nat) (h : Heap) (a : Addr) (es : List (DK × V)) : DK → Prop
 | .s _ => ∃ kvs, h.DictOf (PySem.strKind prog w) a kvs ∧ DP w.params W n DK.s es kvs
 | .i _ => ∃ kvs, h.DictOf (PySem.intKind prog w) a kvs ∧ DP w.params W n DK.i es kvs
 | .p _ _ => ∃ kvs, h.DictOfH (tupleKind (PySem.intKind prog w)) a kvs ∧ DPp w.params W n es kvs
theorem DRel.of {k : DK} (d : DRel prog w W n h a es) (hk : sameKind k es = true) : DOf prog w W n h a es k := by
 cases es with
 | nil =>
  cases k with
  | s x => exact ⟨[], empty_dict d.empty, rfl⟩
  | i x => exact ⟨[], empty_dict d.empty, rfl⟩
  | p x y =>
   obtain ⟨o, ep, h1, h2, h3⟩ := d.empty
   exact ⟨[], ⟨o, #[], ep, h1, h2, h3, rfl, fun e he => by simp at he, .nil⟩, rfl⟩
 | cons e r =>
  have hk : (e.1.kind == k.kind) = true := (andS hk).1
  cases d with
  | s kvs hd hv =>
   have hv' := hv
   obtain ⟨_, _, _, _, e1, _⟩ := hv
   rw [e1] at hk
   cases k <;> first | exact ⟨kvs, hd, hv'⟩ | (exact nfC hk)
  | i kvs hd hv =>
   have hv' := hv
   obtain ⟨_, _, _, _, e1, _⟩ := hv
   rw [e1] at hk
   cases k <;> first | exact ⟨kvs, hd, hv'⟩ | (exact nfC hk)
  | p kvs hd hv =>
   have hv' := hv
   obtain ⟨_, _, _, _, _, _, e1, _⟩ := hv
   rw [e1] at hk
   cases k <;> first | exact ⟨kvs, hd, hv'⟩ | (exact nfC hk)
noncomputable def KeyR (W : Wd) : DK → Value → Prop
 | .s x, rv => ∃ t, rv = .str x t
 | .i x, rv => ∃ t, rv = .int x t
 | .p x y, rv => ∃ a k t u, rv = .ref a ∧ W.B a = some { cls := .type "tuple", data := .seq [Value.int x t, .int y u].toArray k }
theorem int_is (x : Int) (t : Tok) : (PySem.intKind prog w).is x (.int x t) = true := by simp [intKind, Value.isInt]
theorem str_is (x : Str) (t : Tok) : (PySem.strKind prog w).is x (.str x t) = true := by simp [PySem.strKind, Value.isStrOf]
theorem key_real {v : V} {rv : Value} {k : DK} (R : RV w.params W n v rv) (e : v.toKey = some k) : KeyR W k rv := by
 unfold V.toKey at e
 cases h1 : v.str? with
 | some x => rw [h1] at e; (obtain rfl := inj1 e); exact R.ofStr h1
 | none =>
  rw [h1] at e
  dsimp only at e
  cases h2 : v.int? with
  | some x => rw [h2] at e; (obtain rfl := inj1 e); exact R.ofInt h2
  | none =>
   rw [h2] at e
   obtain ⟨xs, h3, e⟩ := bndS e
   obtain ⟨p, h4, e⟩ := bndS e
   obtain ⟨x, h5, e⟩ := bndS e
   obtain ⟨y, h6, rfl⟩ := mapS e
   obtain ⟨a, vs, kk, rfl, hB, Rs⟩ := R.ofTup h3
   obtain ⟨r, t, rfl, R1, R2⟩ := Rs.ofTwo h4
   obtain ⟨t1, rfl⟩ := R1.ofInt h5
   obtain ⟨t2, rfl⟩ := R2.ofInt h6
   exact ⟨a, kk, t1, t2, rfl, hB⟩
theorem KeyR.pair {x y : Int} {a : Addr} {k : Nat} {t u : Tok} (I : Inv prog w b₀ W st h) (hB : W.B a = some { cls := .type "tuple", data := .seq [Value.int x t, .int y u].toArray k }) : (tupleKind (PySem.intKind prog w)).is h [x, y] a :=
 ⟨_, _, k, I.sub _ _ hB, rfl, rfl, .cons (int_is x t) (.cons (int_is y u) .nil)⟩
theorem dict_real {v : V} {rv : Value} {p : Nat × List (DK × V)} (sm : ∃ o, b₀.get? sysModules = some o) (I : Inv prog w b₀ W st s.heap) (R : RV w.params W st.n v rv) (e : dictAt st v = some p) :
  p.1 < st.n ∧ st.f p.1 = .dict p.2 ∧ rv = .ref (W.ρ p.1) ∧ DRel prog w W st.n s.heap (W.ρ p.1) p.2 ∧ (W.ρ p.1 == sysModules) = false := by
 obtain ⟨q, hq, e⟩ := bndS e
 obtain ⟨es, he, rfl⟩ := mapS e
 obtain ⟨rfl, hj, hf⟩ := slot_real R hq
 have hf : st.f q.1 = .dict es := hf.trans (Ob.ofDict he)
 have ho := I.own _ hj
 rw [hf] at ho
 refine ⟨hj, hf, rfl, ho, ?_⟩
 have ha := (I.apart _ hj (by rw [hf]; rfl)).1
 rw [beq_eq_false_iff_ne]
 intro z
 obtain ⟨o, q2⟩ := sm
 rw [z, I.base _ _ q2] at ha; exact nsC ha
theorem dict_realR {v : V} {rv : Value} {p : Nat × List (DK × V)} (sm : ∃ o, b₀.get? sysModules = some o) (I : Inv prog w b₀ W st s.heap) (R : RV w.params W st.n v rv) (e : dictR st v = some p) :
  p.1 < st.n ∧ rv = .ref (W.ρ p.1) ∧ DRel prog w W st.n s.heap (W.ρ p.1) p.2 ∧ (W.ρ p.1 == sysModules) = false := by
 obtain ⟨q, hq, e⟩ := bndS e
 obtain ⟨es, he, rfl⟩ := mapS e
 rcases Option.or_eq_some_iff.mp he with he | ⟨_, he⟩
 ·obtain ⟨h1, h2, h3, h4, h5⟩ := dict_real (p := (q.1, es)) sm I R (by unfold dictAt; rw [hq]; exact Option.map_eq_some_iff.mpr ⟨es, he, rfl⟩)
  exact ⟨h1, h3, h4, h5⟩
 ·obtain ⟨rfl, hj, hf⟩ := slot_real R hq
  have ho := I.own _ hj
  rw [hf, Ob.ofLdict he] at ho
  exact ⟨hj, rfl, ho.1, ho.2.2⟩
theorem inj_s (a b : Str) (h : DK.s a = DK.s b) : a = b := by cases h; rfl
theorem inj_i (a b : Int) (h : DK.i a = DK.i b) : a = b := by cases h; rfl
structure ReadsD (prog : Program) (w : World) (A : Around) (s : Shared) (a : Addr) (rk : Value) (fo : Option Value) : Prop where
 inn : ∀ (neg : Bool) (Q : Value → Shared → Prop) (E : Value → Shared → Prop), (∀ tk, Q (.bool (if neg then !fo.isSome else fo.isSome)) ⟨s.heap, s.gens, s.drawn, tk, s.os⟩) → wpAny (model prog w) A (compareOp (if neg then .NotIn else .In) rk (.ref a)) Q E s
 item : ∀ ru, fo = some ru → ∀ (Q : Value → Shared → Prop) (E : Value → Shared → Prop), (∀ tk, Q ru ⟨s.heap, s.gens, s.drawn, tk, s.os⟩) → wpAny (model prog w) A (getItem (.ref a) rk) Q E s
 get1 : ∀ (Q : Value → Shared → Prop) (E : Value → Shared → Prop), (∀ tk, Q (fo.getD .none) ⟨s.heap, s.gens, s.drawn, tk, s.os⟩) → wpAny (model prog w) A (call (.builtin "dict.get") [.ref a, rk]) Q E s
 get2 : ∀ (d : Value) (Q : Value → Shared → Prop) (E : Value → Shared → Prop), (∀ tk, Q (fo.getD d) ⟨s.heap, s.gens, s.drawn, tk, s.os⟩) → wpAny (model prog w) A (call (.builtin "dict.get") [.ref a, rk, d]) Q E s
theorem ReadsD.of {K : Type} [DecidableEq K] {knd : KeyKind prog w K} {k : K} {rk : Value} {kvs : List (K × Value)} (hsm : (a == sysModules) = false) (hx : knd.is k rk = true) (hd : s.heap.DictOf knd a kvs) : ReadsD prog w A s a rk (valueAt kvs k) := by
 refine ⟨fun neg Q E hQ => ?_, fun ru hr Q E hQ => wpAny_getItem_of hx hd.mapOf hr (hQ _),
  fun Q E hQ => call_meetsIn F.slot_dict_get hd.typeIs F.entry_dict_get (F.args_dict_get_2 _ _) (meets_dict_get knd _ hx hsm) ⟨_, hd.mapOf, hQ _⟩,
  fun d Q E hQ => call_meetsIn F.slot_dict_get hd.typeIs F.entry_dict_get (F.args_dict_get_3 _ _ _) (meets_dict_get_default knd _ hx hsm d) ⟨_, hd.mapOf, hQ _⟩⟩
 cases neg with
 | false => exact wpAny_in_of hx hsm hd.mapOf (hQ _)
 | true => exact wpAny_notIn_of hx hsm hd.mapOf (hQ _)
theorem dict_read {dk : DK} {rk : Value} (hu : A.units + 100 < cLine) (I : Inv prog w b₀ W st s.heap) (D : DRel prog w W st.n s.heap a es) (hsm : (a == sysModules) = false) (hk : sameKind dk es = true) (Kr : KeyR W dk rk) :
  ∃ fo : Option Value, OptR (RV w.params W st.n) (dGet es dk) fo ∧ ReadsD prog w A s a rk fo := by
 have D := D.of hk
 cases dk with
 | s x => obtain ⟨t, rfl⟩ := Kr; obtain ⟨kvs, hd, hv⟩ := D; exact ⟨_, hv.find inj_s x, .of hsm (str_is x t) hd⟩
 | i x => obtain ⟨t, rfl⟩ := Kr; obtain ⟨kvs, hd, hv⟩ := D; exact ⟨_, hv.find inj_i x, .of hsm (int_is x t) hd⟩
 | p x y =>
  obtain ⟨b, k, t, u, rfl, hB⟩ := Kr
  obtain ⟨kvs, hd, hv⟩ := D
  have hx := KeyR.pair I hB
  have hr : (tupleKind (PySem.intKind prog w)).room A.in1 := show A.in1.units < cLine by simp only [Around.in1_units]; omega
  have f := hv.find x y
  refine ⟨(atKey kvs [x, y]).map (·.2), ?_, fun neg Q E hQ => ?_, fun ru e Q E hQ => ?_,
   fun Q E hQ => call_meetsIn F.slot_dict_get hd.typeIs F.entry_dict_get (F.args_dict_get_2 _ _) (meetsH_dict_get (tupleKind (PySem.intKind prog w)) _ b hsm) ⟨hr, _, _, hx, hd, hQ _⟩,
   fun d Q E hQ => call_meetsIn F.slot_dict_get hd.typeIs F.entry_dict_get (F.args_dict_get_3 _ _ _) (meetsH_dict_get_default (tupleKind (PySem.intKind prog w)) _ b hsm d) ⟨hr, _, _, hx, hd, hQ _⟩⟩
  ·generalize dGet es (.p x y) = z at f ⊢
   generalize atKey kvs [x, y] = z' at f ⊢
   cases f with
   | none => exact .none
   | some h => exact .some h
  ·rw [Option.isSome_map] at hQ
   cases neg with
   | false => exact wpAny_in_heap hr hx hsm hd (hQ _)
   | true => exact wpAny_notIn_heap hr hx hsm hd (hQ _)
  ·obtain ⟨p, hp, rfl⟩ := mapS e
   exact wpAny_getItem_heap hr hx hd hp (hQ _)
theorem dict_store {dk : DK} {rk rx : Value} {x : V} {i : Nat} {Q : Unit → Shared → Prop} {E : Value → Shared → Prop} (hu : A.units + 100 < cLine) (I : Inv prog w b₀ W st s.heap) (hi : i < st.n) (hf : st.f i = .dict es) (hk : sameKind dk es = true) (hz : es.length ≤ 1000000) (Kr : KeyR W dk rk) (Rx : RV w.params W st.n x rx)
  (hQ : ∀ h' tk, Inv prog w b₀ W (st.set i (.dict (dSet es dk x))) h' → Step (fAddrs A) W st s.heap W (st.set i (.dict (dSet es dk x))) h' → Q () ⟨h', s.gens, s.drawn, tk, s.os⟩) : wpAny (model prog w) A (setItem (.ref (W.ρ i)) rk rx) Q E s := by
 have D := I.own i hi
 rw [hf] at D
 have fin : ∀ {h'}, Heap.SameBut (W.ρ i) s.heap h' → DRel prog w W st.n h' (W.ρ i) (dSet es dk x) → ∀ tk, Q () ⟨h', s.gens, s.drawn, tk, s.os⟩ := fun hs D tk => by
  obtain ⟨I', S'⟩ := I.turned (ob := .dict (dSet es dk x)) hi (by rw [hf]; rfl) (.inl rfl) hs D.slotted D
  exact hQ _ tk I' S'
 have D := DRel.of D hk
 cases dk with
 | s y => obtain ⟨t, rfl⟩ := Kr; obtain ⟨kvs, hd, hv⟩ := D; exact wpAny_setItem_pairs (str_is y t) hd (fun h' hd' hs => fin hs (.s _ hd' (hv.put inj_s y Rx)) _) (by rw [hv.length]; exact line_ten (by omega))
 | i y => obtain ⟨t, rfl⟩ := Kr; obtain ⟨kvs, hd, hv⟩ := D; exact wpAny_setItem_pairs (int_is y t) hd (fun h' hd' hs => fin hs (.i _ hd' (hv.put inj_i y Rx)) _) (by rw [hv.length]; exact line_ten (by omega))
 | p y z =>
  obtain ⟨b, k, t, u, rfl, hB⟩ := Kr
  obtain ⟨kvs, hd, hv⟩ := D
  have hr : (tupleKind (PySem.intKind prog w)).room A.in1 := show A.in1.units < cLine by simp only [Around.in1_units]; omega
  exact wpAny_setItem_heap hr (KeyR.pair I hB) hd (fun h' hd' hs => fin hs (.p _ hd' (hv.put y z Rx hB)) _) (by rw [hv.length]; exact line_ten (by omega))
end
theorem both_true {α β : Type} {f : α → β → Bool} {a : Option α} {b : Option β} (h : both f a b = true) : ∃ x y, a = some x ∧ b = some y ∧ f x y = true := by
 cases a with
 | none => exact nfC h
 | some x =>
  cases b with
  | none => exact nfC h
  | some y => exact ⟨x, y, rfl, rfl, h⟩
theorem eqo_true {α : Type} [DecidableEq α] {a b : Option α} (h : eqo a b = true) : ∃ x, a = some x ∧ b = some x := by
 obtain ⟨x, y, h1, h2, h3⟩ := both_true h
 exact ⟨x, h1, (odt h3) ▸ h2⟩
theorem bytesArr_size (l : List Nat) : (bytesArr l).size = l.length := by simp [bytesArr]
theorem mul_ok {x y : Int} (h : x.natAbs < 2 ^ 62) : IntMulOk x y := IntMulOk.of_left (intBits_le_64 (by omega) (by omega))
section
variable {prog : Program} {w : World} {b₀ : Heap} {K : Frag} {W : Wd} {st : St} {s : Shared} {A : Around}
theorem ints_are {n : Nat} {xs : List V} : ∀ {vs : List Value} {l : List Int}, RVs w.params W n xs vs → intsOf xs = some l → IntsAre vs l := by
 induction xs with
 | nil => intro vs l h e; (obtain rfl := (h : _ = _)); (obtain rfl := inj1 e); exact .nil
 | cons x xs ih =>
  intro vs l h e
  obtain ⟨r, rs, rfl, h1, h2⟩ := h
  obtain ⟨i, hi, e⟩ := bndS e
  obtain ⟨l', hl, rfl⟩ := mapS e
  obtain ⟨t, rfl⟩ := h1.ofInt hi
  exact .cons _ _ (ih h2 hl)
theorem strs_are {n : Nat} {xs : List V} : ∀ {vs : List Value} {l : List Str}, RVs w.params W n xs vs → strsOf xs = some l → StrsAre vs l := by
 induction xs with
 | nil => intro vs l h e; (obtain rfl := (h : _ = _)); (obtain rfl := inj1 e); exact .nil
 | cons x xs ih =>
  intro vs l h e
  obtain ⟨r, rs, rfl, h1, h2⟩ := h
  obtain ⟨i, hi, e⟩ := bndS e
  obtain ⟨l', hl, rfl⟩ := mapS e
  obtain ⟨t, rfl⟩ := h1.ofStr hi
  exact .cons _ _ (ih h2 hl)
theorem same_all {f : V → V → Bool} {A' : Around} (hf : ∀ {a b : V} {ra rb : Value}, f a b = true → RV w.params W st.n a ra → RV w.params W st.n b rb → EqAt A' s ra rb true) {xs : List V} :
  ∀ {ys : List V} {vs us : List Value}, allTwo f xs ys = true → RVs w.params W st.n xs vs → RVs w.params W st.n ys us → vs.length = us.length ∧ ∀ (j : Nat) (x y : Value), vs[j]? = some x → us[j]? = some y → EqAt A' s x y true := by
 induction xs with
 | nil =>
  intro ys vs us h r1 r2
  cases ys with
  | nil => (obtain rfl := (r1 : _ = _)); (obtain rfl := (r2 : _ = _)); exact ⟨rfl, fun j x y e => by rw [List.getElem?_nil] at e; (exact noC e)⟩
  | cons _ _ => exact nfC h
 | cons x xs ih =>
  intro ys vs us h r1 r2
  cases ys with
  | nil => exact nfC h
  | cons y ys =>
   have h := andS h
   obtain ⟨a, as, rfl, p1, q1⟩ := r1
   obtain ⟨b, bs, rfl, p2, q2⟩ := r2
   obtain ⟨e, g⟩ := ih h.2 q1 q2
   refine ⟨congrArg (· + 1) e, fun j u v e1 e2 => ?_⟩
   cases j with
   | zero => (obtain rfl := inj1 e1); (obtain rfl := inj1 e2); exact hf h.1 p1 p2
   | succ j => exact g j u v e1 e2
theorem all_yes (n : Nat) : ((List.range n).all fun _ => true) = true := List.all_eq_true.mpr fun _ _ => rfl
theorem same_at : ∀ (k : Nat) {A : Around} {a b : V} {ra rb : Value}, A.units + k < cLine → same k a b = true → RV w.params W st.n a ra → RV w.params W st.n b rb → Inv prog w b₀ W st s.heap → EqAt A s ra rb true := by
 intro k
 induction k with
 | zero => intro A a b ra rb _ h; exact nfC h
 | succ k ih =>
  intro A a b ra rb hu h Ra Rb I
  unfold same at h
  rcases Bool.or_eq_true_iff.mp h with h | h
  ·rcases Bool.or_eq_true_iff.mp h with h | h
   ·rcases Bool.or_eq_true_iff.mp h with h | h
    ·rcases Bool.or_eq_true_iff.mp h with h | h
     ·rcases Bool.or_eq_true_iff.mp h with h | h
      ·have h := andS h
       rw [Ra.ofNil h.1, Rb.ofNil h.2]; exact EqAt.same _
      ·obtain ⟨x, h1, h2⟩ := eqo_true h
       rw [Ra.ofBool h1, Rb.ofBool h2]; exact EqAt.same _
     ·obtain ⟨x, h1, h2⟩ := eqo_true h
      obtain ⟨t, rfl⟩ := Ra.ofInt h1
      obtain ⟨u, rfl⟩ := Rb.ofInt h2
      have := (MeetsSeq.EqGives.int x x t u).at A s
      rwa [beq_self_eq_true] at this
    ·obtain ⟨x, h1, h2⟩ := eqo_true h
     obtain ⟨t, rfl⟩ := Ra.ofStr h1
     obtain ⟨u, rfl⟩ := Rb.ofStr h2
     exact fun _ _ _ _ q => wpAny_eqBool_str (by rw [decide_eq_true rfl]; exact q)
   ·obtain ⟨x, h1, h2⟩ := eqo_true h
    obtain ⟨t, rfl, _⟩ := Ra.ofBytes h1
    obtain ⟨u, rfl, _⟩ := Rb.ofBytes h2
    exact fun _ _ _ _ q => eqBool_bytes (by rw [decide_eq_true rfl]; exact q)
  ·obtain ⟨x, y, h1, h2, h3⟩ := both_true h
   obtain ⟨l, vs, n1, rfl, g1, r1⟩ := Ra.ofTup h1
   obtain ⟨l2, us, n2, rfl, g2, r2⟩ := Rb.ofTup h2
   by_cases hq : l = l2
   ·subst hq; exact EqAt.same _
   obtain ⟨hl, he⟩ := same_all (A' := A.in1) (fun e p q => ih (by simp only [Around.in1_units]; omega) e p q I) h3 r1 r2
   refine EqAt.of_refs hq ?_
   have := RcAt.tuples (A := A) (s := s) (e := fun _ => true) ⟨_, I.sub _ _ g1, rfl, _, rfl⟩ ⟨_, I.sub _ _ g2, rfl, _, rfl⟩ (by omega) (fun j q1 q2 => he j _ _ (by simp) (by simp))
   rw [all_yes, show (vs.toArray.size == us.toArray.size) = true by simp [hl]] at this
   exact this
noncomputable def opOf : Op → Operator
 | .add => .Add | .sub => .Sub | .mul => .Mult | .fdiv => .FloorDiv | .mod => .Mod | .pow => .Pow | .addS => .Add | .mulS => .Mult | .addB => .Add | .addT => .Add | .addL => .Add
theorem sim_I2 {t : Sem Value} {a b : V} {ra rb : Value} {k : Int → Int → M V} (Ra : RV w.params W st.n a ra) (Rb : RV w.params W st.n b rb)
  (h : ∀ x y t1 t2, ra = .int x t1 → rb = .int y t2 → Sim prog w b₀ A t W st s (RlV w) (k x y st)) : Sim prog w b₀ A t W st s (RlV w) (onI2 a b k st) :=
 Sim.onO fun x hx => Sim.onO fun y hy => let ⟨t1, e1⟩ := Ra.ofInt hx; let ⟨t2, e2⟩ := Rb.ofInt hy; h x y t1 t2 e1 e2
theorem sim_L {α β : Type} {t : Sem β} {Rl : Wd → Nat → α → β → Prop} {v : V} {rv : Value} {k : List V → M α} (I : Inv prog w b₀ W st s.heap) (R : RV w.params W st.n v rv)
  (h : ∀ xs a vs, listOf st v = some xs → rv = .ref a → s.heap.IsList a vs.toArray → RVs w.params W st.n xs vs → (∀ o, s.heap.get? a = some o → o.dict = none ∧ o.slots = #[]) → Sim prog w b₀ A t W st s Rl (k xs st)) : Sim prog w b₀ A t W st s Rl (onL v k st) :=
 Sim.onO fun xs hx => let ⟨a, vs, e1, e2, e3, e4⟩ := listOf_real I R hx; h xs a vs hx e1 e2 e3 e4
theorem sim_K {α β : Type} {t : Sem β} {Rl : Wd → Nat → α → β → Prop} {v k : V} {rv rk : Value} {g : List (DK × V) → DK → M α} (sm : ∃ o, b₀.get? sysModules = some o) (hu : A.units + 100 < cLine) (I : Inv prog w b₀ W st s.heap) (R : RV w.params W st.n v rv) (Rk : RV w.params W st.n k rk)
  (h : ∀ es dk a fo, rv = .ref a → (∃ o, s.heap.get? a = some o ∧ o.cls = .type "dict") → OptR (RV w.params W st.n) (dGet es dk) fo → ReadsD prog w A s a rk fo → Sim prog w b₀ A t W st s Rl (g es dk st)) : Sim prog w b₀ A t W st s Rl (onK v k g st) := by
 refine Sim.onO fun p hp => Sim.onO fun dk hdk => Sim.onP fun hk => ?_
 obtain ⟨hi, rfl, D, hsm⟩ := dict_realR sm I R hp
 obtain ⟨fo, h1, h2⟩ := dict_read hu I D hsm hk (key_real Rk hdk)
 exact h p.2 dk _ fo rfl D.at h1 h2
theorem sim_op {o : Op} {a b : V} {ra rb : Value} (I : Inv prog w b₀ W st s.heap) (Ra : RV w.params W st.n a ra) (Rb : RV w.params W st.n b rb) :
  Sim prog w b₀ A (binaryOp (opOf o) ra rb) W st s (RlV w) (opV o a b st) := by
 cases o with
 | add => refine sim_I2 Ra Rb fun x y t1 t2 e1 e2 => ?_; subst e1 e2; exact sim_val I fun Q E hQ => add_int (hQ _ _ (RV.int _ _))
 | sub => refine sim_I2 Ra Rb fun x y t1 t2 e1 e2 => ?_; subst e1 e2; exact sim_val I fun Q E hQ => sub_int (hQ _ _ (RV.int _ _))
 | mul => refine sim_I2 Ra Rb fun x y t1 t2 e1 e2 => Sim.onP fun h => ?_; subst e1 e2; exact sim_val I fun Q E hQ => mul_int (hQ _ _ (RV.int _ _)) (mul_ok h)
 | fdiv => refine sim_I2 Ra Rb fun x y t1 t2 e1 e2 => Sim.onP fun h => ?_; subst e1 e2; exact sim_val I fun Q E hQ => floordiv_int (by omega) (hQ _ _ (RV.int _ _)) (.inl (PyProof.noPylong_small (by omega)))
 | mod => refine sim_I2 Ra Rb fun x y t1 t2 e1 e2 => Sim.onP fun h => ?_; subst e1 e2; exact sim_val I fun Q E hQ => mod_int' (by omega) (hQ _ _ (RV.int _ _))
 | pow =>
  refine sim_I2 Ra Rb fun x y t1 t2 e1 e2 => Sim.onP fun h => ?_
  obtain ⟨rfl, rfl⟩ := h
  subst e1 e2
  exact sim_val I fun Q E hQ => pow_int (by decide) (by decide +kernel) (hQ _ _ (RV.int _ _))
 | addS =>
  refine Sim.onO fun x hx => Sim.onO fun y hy => Sim.onP fun h => ?_
  obtain ⟨t, rfl⟩ := Ra.ofStr hx
  obtain ⟨u, rfl⟩ := Rb.ofStr hy
  exact sim_val I fun Q E hQ => add_str (fun t' tk => hQ _ _ (RV.str _ _)) (line_ten h)
 | mulS =>
  refine Sim.onO fun x hx => Sim.onO fun y hy => Sim.onP fun h => ?_
  obtain ⟨t, rfl⟩ := Ra.ofStr hx
  obtain ⟨u, rfl⟩ := Rb.ofInt hy
  exact sim_val I fun Q E hQ => SB.mul (mulOk_of 1000 1000 h.1 (by omega) (by omega) (by decide) (by decide)) (fun t' k => hQ _ _ (RV.str _ _))
 | addB =>
  refine Sim.onO fun x hx => Sim.onO fun y hy => Sim.onP fun h => ?_
  obtain ⟨t, rfl, hx⟩ := Ra.ofBytes hx
  obtain ⟨u, rfl, hy⟩ := Rb.ofBytes hy
  refine sim_val I fun Q E hQ => ?_
  unfold bytesArr
  exact bytes_add_K (d := (x ++ y).map UInt8.ofNat) (by simp; omega) (by simp) fun t' k => hQ _ _ (RV.bytes (x ++ y) t' fun b hb => (List.mem_append.mp hb).elim (hx b) (hy b))
 | addT =>
  refine Sim.onO fun x hx => Sim.onO fun y hy => Sim.onP fun hl => ?_
  obtain ⟨l, vs, k, rfl, h1, h2⟩ := Ra.ofTup hx
  obtain ⟨l2, us, k2, rfl, g1, g2⟩ := Rb.ofTup hy
  have q1 := I.sub _ _ h1
  have q2 := I.sub _ _ g1
  cases x with
  | nil =>
   obtain rfl := (h2 : _ = _)
   exact sim_val I fun Q E hQ => concat_meets ⟨_, q1, rfl⟩ ⟨_, q2, rfl⟩ noFill_tuple_add seq_tuple_add PySem.F.slot_tuple_add PySem.F.entry_tuple_add (PySem.F.args_tuple_add_2 _ _)
    (tuple_addW0 l l2 _ us.toArray k k2 none none #[] #[] rfl) ⟨q1, q2, hQ _ _ (.tup g1 g2)⟩
  | cons x xs =>
   obtain ⟨r, rs, rfl, p1, p2⟩ := h2
   cases y with
   | nil =>
    obtain rfl := (g2 : _ = _)
    rw [List.append_nil]
    exact sim_val I fun Q E hQ => concat_meets ⟨_, q1, rfl⟩ ⟨_, q2, rfl⟩ noFill_tuple_add seq_tuple_add PySem.F.slot_tuple_add PySem.F.entry_tuple_add (PySem.F.args_tuple_add_2 _ _)
     (tuple_addW1 l l2 (r :: rs).toArray _ k k2 none none #[] #[] (fun q => by (exact nfC q)) rfl) ⟨q1, q2, hQ _ _ (.tup h1 ⟨r, rs, rfl, p1, p2⟩)⟩
   | cons y ys =>
    obtain ⟨u, us, rfl, p3, p4⟩ := g2
    have Rs := RVs.append (P := w.params) (W := W) (n := st.n) (xs := x :: xs) (ys := y :: ys) (us := u :: us) ⟨u, us, rfl, p3, p4⟩ (vs := r :: rs) ⟨r, rs, rfl, p1, p2⟩
    have hz := Rs.length
    refine sim_newTup I Rs fun Q E hQ => ?_
    refine concat_meets ⟨_, q1, rfl⟩ ⟨_, q2, rfl⟩ noFill_tuple_add seq_tuple_add PySem.F.slot_tuple_add PySem.F.entry_tuple_add (PySem.F.args_tuple_add_2 _ _)
     (tuple_addW2 l l2 (r :: rs).toArray (u :: us).toArray k k2 none none #[] #[] (fun q => by (exact nfC q)) (fun q => by (exact nfC q)) ?_) ⟨q1, q2, ?_⟩
    ·rw [lApp, lApp] at hz
     rw [List.size_toArray, List.size_toArray, hz]; exact line_ten hl
    ·rw [List.append_toArray]; exact hQ s.toks
 | addL =>
  refine sim_L I Ra fun x l vs _ e1 l1 r1 _ => sim_L I Rb fun y l2 us _ e2 l2' r2 _ => Sim.onP fun hl => ?_
  subst e1 e2
  obtain ⟨⟨c1, dd1, da1, sl1⟩, h1, hc1, k, hd1⟩ := l1
  obtain ⟨⟨c2, dd2, da2, sl2⟩, h2, hc2, k2, hd2⟩ := l2'
  (obtain rfl := (hc1 : _ = _)); (obtain rfl := (hd1 : _ = _)); (obtain rfl := (hc2 : _ = _)); (obtain rfl := (hd2 : _ = _))
  refine sim_newList I (RVs.append r2 r1) fun Q E hQ => ?_
  refine concat_meets ⟨_, h1, rfl⟩ ⟨_, h2, rfl⟩ noFill_list_add seq_list_add PySem.F.slot_list_add PySem.F.entry_list_add (PySem.F.args_list_add_2 _ _) (list_addW l l2 vs.toArray us.toArray k k2 dd1 dd2 sl1 sl2 ?_) ⟨h1, h2, ?_⟩
  ·rw [List.size_toArray, List.size_toArray, r1.length, r2.length]; exact line_ten hl
  ·rw [List.append_toArray]; exact hQ s.toks
end
noncomputable def ckOp (k : CK) (neg : Bool) : CmpOp := match k with
 | .lt => if neg then .GtE else .Lt
 | .le => if neg then .Gt else .LtE
 | .isNone => if neg then .IsNot else .Is
 | .inT => if neg then .NotIn else .In
 | .inL => if neg then .NotIn else .In
 | .inD => if neg then .NotIn else .In
 | _ => if neg then .NotEq else .Eq
abbrev RlBV : Wd → Nat → Bool → Value → Prop := fun _ _ b rv => rv = .bool b
noncomputable def plainSlice : Expr → Bool
 | .Slice .. => false
 | _ => true
theorem subscripted_plain {slice : Expr} (h : plainSlice slice = true) (o i : Value) : subscripted slice false o i = operate [o, i] (getItem o i) := by
 cases slice <;> first | rfl | (exact nfC h)
theorem idx_cases {n j : Nat} {k : Int} (h : idxAt n k = some j) : n < 1099511627776 ∧ ((0 ≤ k ∧ k < n ∧ j = k.toNat) ∨ (k < 0 ∧ -(n : Int) ≤ k ∧ j = (k + n).toNat)) := by
 unfold idxAt at h
 by_cases hn : ¬ n < 1099511627776
 ·rw [if_pos hn] at h; exact noC h
 ·rw [if_neg hn] at h
  refine ⟨Decidable.of_not_not hn, ?_⟩
  by_cases hk : 0 ≤ k ∧ k < n
  ·rw [if_pos hk] at h; (obtain rfl := inj1 h); exact .inl ⟨hk.1, hk.2, rfl⟩
  ·rw [if_neg hk] at h
   by_cases hk : k < 0 ∧ -(n : Int) ≤ k
   ·rw [if_pos hk] at h; (obtain rfl := inj1 h); exact .inr ⟨hk.1, hk.2, rfl⟩
   ·rw [if_neg hk] at h; exact noC h
theorem seq_idx {n j : Nat} {k : Int} (h : idxAt n k = some j) : seqIndex? k n = some j := by
 obtain ⟨hn, h | h⟩ := idx_cases h
 ·obtain ⟨h1, h2, rfl⟩ := h
  unfold seqIndex?
  rw [if_neg (by omega : ¬ k < 0)]
  dsimp only
  rw [if_pos (by rw [Bool.and_eq_true, decide_eq_true_eq, decide_eq_true_eq]; exact ⟨h1, h2⟩)]
 ·obtain ⟨h1, h2, rfl⟩ := h
  unfold seqIndex?
  rw [if_pos h1]
  dsimp only
  rw [if_pos (by rw [Bool.and_eq_true, decide_eq_true_eq, decide_eq_true_eq]; omega)]
section
variable {prog : Program} {w : World} {b₀ : Heap} {K : Frag} {W : Wd} {st : St} {s : Shared} {A : Around}
theorem RV.isNone {P : Params} {n : Nat} {v : V} {rv : Value} (h : RV P W n v rv) : (rv == .none) = v.isNil := by
 cases v with
 | nil => (obtain rfl := (h : _ = _)); rfl
 | bool b => (obtain rfl := (h : _ = _)); rfl
 | int i => obtain ⟨t, rfl⟩ := h; rfl
 | str s => obtain ⟨t, rfl⟩ := h; rfl
 | bytes l => obtain ⟨t, rfl, _⟩ := h; rfl
 | obj c fs => obtain ⟨a, d, es, k, rfl, _⟩ := h; rfl
 | tup xs => obtain ⟨a, vs, k, rfl, _⟩ := h; rfl
 | lst xs => obtain ⟨a, vs, o, rfl, _⟩ := h; rfl
 | rng a b s => obtain ⟨r, t, u, v, rfl, _⟩ := h; rfl
 | ref i => cases h.1; rfl
theorem int_eqAt {n : Nat} (k : Int) (t : Tok) {xs : List V} : ∀ {vs : List Value} {l : List Int}, RVs w.params W n xs vs → intsOf xs = some l →
  (∀ y, y ∈ vs → EqAt A s y (.int k t) (match y with | .int i _ => i == k | _ => false)) ∧ (vs.any fun y => match y with | .int i _ => i == k | _ => false) = l.contains k := by
 induction xs with
 | nil => intro vs l h e; (obtain rfl := (h : _ = _)); (obtain rfl := inj1 e); exact ⟨fun y hy => (nomatch hy), rfl⟩
 | cons x xs ih =>
  intro vs l h e
  obtain ⟨r, rs, rfl, h1, h2⟩ := h
  obtain ⟨i, hi, e⟩ := bndS e
  obtain ⟨l', hl, rfl⟩ := mapS e
  obtain ⟨u, rfl⟩ := h1.ofInt hi
  obtain ⟨g1, g2⟩ := ih h2 hl
  refine ⟨fun y hy => ?_, ?_⟩
  ·rcases List.mem_cons.mp hy with rfl | hy
   ·exact (MeetsSeq.EqGives.int i k u t).at A s
   ·exact g1 y hy
  ·rw [List.any_cons, g2, List.contains_cons]
   congr 1
   exact Bool.beq_comm
theorem sim_cmp {k : CK} {neg : Bool} {a b : V} {ra rb : Value} (sm : ∃ o, b₀.get? sysModules = some o) (hu : A.units + 100 < cLine) (I : Inv prog w b₀ W st s.heap) (Ra : RV w.params W st.n a ra) (Rb : RV w.params W st.n b rb) :
  Sim prog w b₀ A (compareOp (ckOp k neg) ra rb) W st s RlBV (cmpV k neg a b st) := by
 cases k with
 | eqI =>
  refine Sim.onO fun x hx => Sim.onO fun y hy => ?_
  obtain ⟨t, rfl⟩ := Ra.ofInt hx
  obtain ⟨u, rfl⟩ := Rb.ofInt hy
  refine sim_bool I fun Q E hQ => ?_
  cases neg with
  | false => exact PyProof.Rows.eq_int (hQ s.toks)
  | true => exact PyProof.Rows.ne_int (hQ s.toks)
 | lt =>
  refine Sim.onO fun x hx => Sim.onO fun y hy => ?_
  obtain ⟨t, rfl⟩ := Ra.ofInt hx
  obtain ⟨u, rfl⟩ := Rb.ofInt hy
  refine sim_bool I fun Q E hQ => ?_
  cases neg with
  | false => exact PyProof.Rows.lt_int (hQ s.toks)
  | true => exact PyProof.Rows.ge_int (by rw [show decide (y ≤ x) = !decide (x < y) from by rw [← decide_not]; exact decide_eq_decide.mpr Int.not_lt.symm]; exact hQ s.toks)
 | le =>
  refine Sim.onO fun x hx => Sim.onO fun y hy => ?_
  obtain ⟨t, rfl⟩ := Ra.ofInt hx
  obtain ⟨u, rfl⟩ := Rb.ofInt hy
  refine sim_bool I fun Q E hQ => ?_
  cases neg with
  | false => exact PyProof.Rows.le_int (hQ s.toks)
  | true => exact PyProof.Rows.gt_int (by rw [show decide (y < x) = !decide (x ≤ y) from by rw [← decide_not]; exact decide_eq_decide.mpr Int.not_le.symm]; exact hQ s.toks)
 | eqS =>
  refine Sim.onO fun x hx => Sim.onO fun y hy => ?_
  obtain ⟨t, rfl⟩ := Ra.ofStr hx
  obtain ⟨u, rfl⟩ := Rb.ofStr hy
  refine sim_bool I fun Q E hQ => ?_
  cases neg with
  | false => exact PyProof.Rows.eq_str (hQ s.toks)
  | true => exact PyProof.Rows.ne_str (hQ s.toks)
 | sameT =>
  refine Sim.onO fun x hx => Sim.onO fun y hy => Sim.onP fun hs => ?_
  obtain ⟨l, vs, n1, rfl, g1, r1⟩ := Ra.ofTup hx
  obtain ⟨l2, us, n2, rfl, g2, r2⟩ := Rb.ofTup hy
  obtain ⟨hl, he⟩ := same_all (A' := A.in1) (fun e p q => same_at 12 (by simp only [Around.in1_units]; omega) e p q I) hs r1 r2
  have t1 : s.heap.IsTuple l vs.toArray := ⟨_, I.sub _ _ g1, rfl, _, rfl⟩
  have t2 : s.heap.IsTuple l2 us.toArray := ⟨_, I.sub _ _ g2, rfl, _, rfl⟩
  have e2 : (vs.toArray.size == us.toArray.size) = true := by simp [hl]
  refine sim_bool I fun Q E hQ => ?_
  cases neg with
  | false => exact RcAt.tuples (A := A) (s := s) (e := fun _ => true) t1 t2 (by omega) (fun j q1 q2 => he j _ _ (by simp) (by simp)) prog w E Q (by rw [all_yes, e2]; exact hQ s.toks)
  | true => exact RcNeAt.tuples (A := A) (s := s) (e := fun _ => true) t1 t2 (by omega) (fun j q1 q2 => he j _ _ (by simp) (by simp)) prog w E Q (by rw [all_yes, e2]; exact hQ s.toks)
 | sameL =>
  refine sim_L I Ra fun x l vs _ e1 l1 r1 _ => sim_L I Rb fun y l2 us _ e2 l2' r2 _ => Sim.onP fun hs => ?_
  subst e1 e2
  obtain ⟨hl, he⟩ := same_all (A' := A.in1) (fun e p q => same_at 12 (by simp only [Around.in1_units]; omega) e p q I) hs r1 r2
  have hsz : vs.toArray.size = us.toArray.size := by simp [hl]
  refine sim_bool I fun Q E hQ => ?_
  cases neg with
  | false => exact RcAt.lists (A := A) (s := s) (e := fun _ => true) l1 l2' hsz (by omega) (fun j q1 q2 => he j _ _ (by simp) (by simp)) prog w E Q (by rw [all_yes]; exact hQ s.toks)
  | true => exact RcNeAt.lists (A := A) (s := s) (e := fun _ => true) l1 l2' hsz (by omega) (fun j q1 q2 => he j _ _ (by simp) (by simp)) prog w E Q (by rw [all_yes]; exact hQ s.toks)
 | «ints» =>
  refine sim_L I Ra fun x l vs _ e1 l1 r1 _ => sim_L I Rb fun y l2 us _ e2 l2' r2 _ => Sim.onO fun i hi => Sim.onO fun j hj => ?_
  subst e1 e2
  refine sim_bool I fun Q E hQ => ?_
  cases neg with
  | false => exact ke_eq_ints l1 l2' (ints_are r1 hi) (ints_are r2 hj) (by omega) (hQ s.toks)
  | true => exact ke_ne_ints l1 l2' (ints_are r1 hi) (ints_are r2 hj) (by omega) (hQ s.toks)
 | isNone =>
  refine Sim.onP fun hb => ?_
  cases Rb.ofNil hb
  refine sim_bool I fun Q E hQ => ?_
  have := hQ s.toks
  rw [← Ra.isNone] at this
  cases neg with
  | false => exact is_none_gen this
  | true => exact isnot_none_gen this
 | inT =>
  refine Sim.onO fun x hx => Sim.onO fun ys hy => Sim.onO fun l hl => ?_
  obtain ⟨t, rfl⟩ := Ra.ofInt hx
  obtain ⟨a, vs, n, rfl, g, r⟩ := Rb.ofTup hy
  obtain ⟨hf, ef⟩ := int_eqAt (A := A.in1) (s := s) x t r hl
  refine sim_bool I fun Q E hQ => ?_
  have := hQ s.toks
  rw [← ef] at this
  cases neg with
  | false => exact in_tupleAt _ ⟨_, I.sub _ _ g, rfl, _, rfl⟩ (fun y hy => hf y (by simpa using hy)) (by rw [List.any_toArray]; exact this)
  | true => exact notIn_tupleAt _ ⟨_, I.sub _ _ g, rfl, _, rfl⟩ (fun y hy => hf y (by simpa using hy)) (by rw [List.any_toArray]; exact this)
 | inL =>
  refine Sim.onO fun x hx => sim_L I Rb fun ys a vs _ e1 l1 r _ => Sim.onO fun l hl => ?_
  obtain ⟨t, rfl⟩ := Ra.ofInt hx
  subst e1
  obtain ⟨hf, ef⟩ := int_eqAt (A := A.in1) (s := s) x t r hl
  refine sim_bool I fun Q E hQ => ?_
  have := hQ s.toks
  rw [← ef] at this
  cases neg with
  | false => exact in_listAt _ l1 (fun y hy => hf y (by simpa using hy)) (by rw [List.any_toArray]; exact this)
  | true => exact notIn_listAt _ l1 (fun y hy => hf y (by simpa using hy)) (by rw [List.any_toArray]; exact this)
 | inD =>
  show Sim prog w b₀ A _ W st s RlBV (onK b a (fun es dk => M.pure (nb neg (dGet es dk).isSome)) st)
  refine sim_K sm hu I Rb Ra fun es dk a fo e1 _ h1 h2 => ?_
  subst e1
  refine sim_bool I fun Q E hQ => ?_
  rw [← h1.isSome] at hQ
  exact h2.inn neg Q E hQ
theorem isTag_ty {t : Nat} {ty : Ty} {b : Bool} (h : isTag t ty = some b) : ty ∈ allTys := by
 cases ty with
 | cls a =>
  unfold isTag at h
  by_cases q : [155, 183, 205, 226, 254].contains a = true
  ·have : a ∈ [155, 183, 205, 226, 254] := List.contains_iff_mem.mp q
   have h2 : (Ty.cls a) ∈ [155, 183, 205, 226, 254].map Ty.cls := List.mem_map.mpr ⟨a, this, rfl⟩
   exact List.mem_append_right [.bool, .int, .list, .dict] h2
  ·dsimp only at h; rw [if_neg q] at h; exact noC h
 | bool => exact List.Mem.head _
 | int => exact .tail _ (.head _)
 | list => exact .tail _ (.tail _ (.head _))
 | dict => exact .tail _ (.tail _ (.tail _ (.head _)))
theorem tag_cls {c : Nat} (hc : c < 6) : clsAddr c ∈ allTags ∧ tagVal (clsAddr c) = .ref (clsAddr c) := by
 have : ∀ c : Fin 6, clsAddr c.val ∈ allTags ∧ ¬ clsAddr c.val < 6 := by decide +kernel
 obtain ⟨h1, h2⟩ := this ⟨c, hc⟩
 exact ⟨h1, if_neg h2⟩
theorem sim_isin {v : V} {rv : Value} {ty : Ty} (X : KX K b₀) (I : Inv prog w b₀ W st s.heap) (R : RV w.params W st.n v rv) :
  Sim prog w b₀ A (call (.builtin "isinstance") [rv, tyVal ty]) W st s RlBV (isinV v ty st) := by
 refine Sim.onO fun t ht => Sim.onO fun b hb => ?_
 have go : ∀ {t : Nat} {H : Heap → Prop}, isTag t ty = some b → t ∈ allTags → KitX K rv (tagVal t) H → H s.heap → rv ≠ .builtin "__main__.__loader__#opaque" → Sim prog w b₀ A (call (.builtin "isinstance") [rv, tyVal ty]) W st s RlBV (some (.ok b, st)) := by
  intro t H hb hm Z p hx
  have := List.all_eq_true.mp (List.all_eq_true.mp X.kits t hm) ty (isTag_ty hb)
  exact sim_bool I fun Q E hQ => kia_one Z (X.In I) p ((beq_iff_eq.mp this).trans hb) hx hQ
 have slot : ∀ {v}, RV w.params W st.n v rv → (slotOf st v).bind (fun p => p.2.tag) = some t → Sim prog w b₀ A (call (.builtin "isinstance") [rv, tyVal ty]) W st s RlBV (some (.ok b, st)) := by
  intro v R ht
  obtain ⟨p, hp, ht⟩ := bndS ht
  obtain ⟨rfl, hj, hf⟩ := slot_real R hp
  have ho := I.own _ hj
  rw [hf] at ho
  generalize p.2 = ob at ho ht
  cases ob with
  | list xs => (obtain rfl := inj1 ht); obtain ⟨vs, ⟨o, h1, hc, _⟩, h2⟩ := ho; exact go hb (by decide) kitx_list ⟨_, h1, hc⟩ (fun e => by cases e)
  | dict es => (obtain rfl := inj1 ht); exact go hb (by decide) kitx_dict (DRel.at ho) (fun e => by cases e)
  | ldict es => (obtain rfl := inj1 ht); exact go hb (by decide) kitx_dict (DRel.at ho.1) (fun e => by cases e)
  | inst _ _ => exact noC ht
  | gone => exact noC ht
 cases v with
 | nil => (obtain rfl := inj1 ht); (obtain rfl := (R : _ = _)); exact go hb (by decide) kitx_none trivial (fun e => by cases e)
 | bool x => (obtain rfl := inj1 ht); (obtain rfl := (R : _ = _)); exact go hb (by decide) kitx_bool trivial (fun e => by cases e)
 | int x => (obtain rfl := inj1 ht); obtain ⟨u, rfl⟩ := R; exact go hb (by decide) kitx_int trivial (fun e => by cases e)
 | str x => (obtain rfl := inj1 ht); obtain ⟨u, rfl⟩ := R; exact go hb (by decide) kitx_str trivial (fun e => by cases e)
 | lst xs =>
  obtain rfl := inj1 ht
  obtain ⟨a, vs, o, rfl, h1, hl, _⟩ := R
  exact go hb (by decide) kitx_list ⟨_, I.sub _ _ h1, hl.1.1⟩ (fun e => by cases e)
 | obj c fs =>
  obtain ⟨a, d, es, k, rfl, h1, h2, h3⟩ := R
  change (if c < 6 then some (clsAddr c) else Option.none) = some t at ht
  by_cases hc : c < 6
  ·rw [if_pos hc] at ht
   obtain rfl := inj1 ht
   have K1 := X.cls hc
   simp only [clsOk, Bool.and_eq_true, beq_iff_eq] at K1
   have Z : KitX K (.ref a) (.ref (clsAddr c)) (fun h => InstAt h a (instObj (clsAddr c) d) (clsAddr c) (some (dictOf es k))) :=
    kitx_own K1.2.2.2.1 K1.2.2.1 K1.2.2.2.2.1 (beq_iff_eq.mp X.kget) (beq_iff_eq.mp X.ktakes) K1.2.2.2.2.2.1
   rw [← (tag_cls hc).2] at Z
   exact go hb (tag_cls hc).1 Z (instAt_obj (I.sub _ _ h1) (I.sub _ _ h2)) (fun e => by cases e)
  ·rw [if_neg hc] at ht; exact noC ht
 | bytes l => exact slot R ht
 | tup xs => exact slot R ht
 | rng a b s => exact slot R ht
 | ref i => exact slot R ht
end
section
variable {prog : Program} {w : World} {b₀ : Heap} {K : Frag} {W : Wd} {st : St} {s : Shared} {A : Around}
theorem dict_getitem_lookup : typeLookup (.type "dict") "__getitem__" = pure (some (.builtin "dict.__getitem__")) := slot_dict_getitem.lookup
theorem sim_idx {t : IK} {v k : V} {rv rk : Value} {value slice : Expr} (sm : ∃ o, b₀.get? sysModules = some o) (hu : A.units + 100 < cLine) (hsl : plainSlice slice = true) (I : Inv prog w b₀ W st s.heap) (Rv : RV w.params W st.n v rv) (Rk : RV w.params W st.n k rk) :
  Sim prog w b₀ A (subscriptTail value slice rv rk) W st s (RlV w) (idxV t v k st) := by
 cases t with
 | tup =>
  refine Sim.onO fun xs hx => Sim.onO fun i hi => Sim.onO fun j hj => Sim.onO fun u hu => ?_
  obtain ⟨a, vs, kk, rfl, h1, h2⟩ := Rv.ofTup hx
  obtain ⟨t, rfl⟩ := Rk.ofInt hi
  obtain ⟨ru, hr, Ru⟩ := h2.get hu
  have g := I.sub _ _ h1
  have hl := h2.length
  have hc := idx_cases hj
  have hk := seq_idx hj
  rw [← hl] at hk hc
  exact sim_val I fun Q E hQ => tail_any (s := s) (T := "tuple") ⟨_, g, rfl⟩ F.slot_tuple_getitem.lookup (PyProof.Rows.getItem_tuple (t := a) (items := vs.toArray) ⟨_, g, rfl, _, rfl⟩ (by omega) (by omega) (by rw [List.size_toArray]; exact hk) (by rw [List.getElem?_toArray]; exact hr) (hQ _ s.toks Ru)) (subscripted_plain hsl _ _)
 | lst =>
  refine sim_L I Rv fun xs a vs _ e1 l1 r1 _ => Sim.onO fun i hi => Sim.onO fun j hj => Sim.onO fun u hu => ?_
  subst e1
  obtain ⟨t, rfl⟩ := Rk.ofInt hi
  obtain ⟨ru, hr, Ru⟩ := r1.get hu
  have hl := r1.length
  obtain ⟨hn, hc⟩ := idx_cases hj
  refine sim_val I fun Q E hQ => tail_any l1.typeIs slot_list_getitem.lookup ?_ (subscripted_plain hsl _ _)
  rcases hc with ⟨h1, h2, rfl⟩ | ⟨h1, h2, rfl⟩
  ·exact wpAny_getItem_list l1 h1 (by omega) (by rw [List.getElem?_toArray]; exact hr) (hQ _ s.toks Ru)
  ·exact wpAny_getItem_list_neg l1 (by omega) (by rw [List.size_toArray]; omega) (by omega) (by rw [List.size_toArray, List.getElem?_toArray, hl]; exact hr) (hQ _ s.toks Ru)
 | byt =>
  refine Sim.onO fun l hx => Sim.onO fun i hi => Sim.onP fun hp => Sim.onO fun b hb => ?_
  obtain ⟨t, rfl, hlt⟩ := Rv.ofBytes hx
  obtain ⟨u, rfl⟩ := Rk.ofInt hi
  have hlen : i.toNat < l.length := (List.getElem?_eq_some_iff.mp hb).1
  have hb' := hlt b (List.mem_of_getElem? hb)
  refine sim_val I fun Q E hQ => ?_
  have e : ((((l.map UInt8.ofNat).getD i.toNat 0).toNat : Nat) : Int) = (b : Int) := by
   rw [show (l.map UInt8.ofNat).getD i.toNat 0 = UInt8.ofNat b from by rw [List.getD_eq_getElem?_getD, List.getElem?_map, hb]; rfl]
   simp; omega
  exact bytes_item_K (x := l.map UInt8.ofNat) (by rw [List.length_map]; omega) hp.1 (by rw [List.length_map]; omega) e (hQ _ _ (RV.int _ _)) (subscripted_plain hsl _ _) (by intro r; cases value <;> rfl)
 | dct =>
  show Sim prog w b₀ A _ W st s (RlV w) (onK v k (fun es dk => onO (dGet es dk) M.pure) st)
  refine sim_K sm hu I Rv Rk fun es dk a fo e1 hT h1 h2 => Sim.onO fun u hu => ?_
  subst e1
  obtain ⟨ru, hr, Ru⟩ := h1.at hu
  exact sim_val I fun Q E hQ => tail_any (T := "dict") hT dict_getitem_lookup (h2.item ru hr Q E fun tk => hQ _ _ Ru) (subscripted_plain hsl _ _)
theorem set_list {l : Addr} {items : Array Value} {n : Nat} {k : Int} {t : Tok} {v : Value} {Q : Unit → Shared → Prop} {E : Value → Shared → Prop} (ho : s.heap.get? l = some { cls := .type "list", data := .seq items n }) (h0 : 0 ≤ k) (hfit : k < 2 ^ 63) (hn : k < items.size)
  (hQ : ∀ h' n', h'.get? l = some { cls := .type "list", data := .seq (items.setIfInBounds k.toNat v) n' } → Heap.SameBut l s.heap h' → Q () { s with heap := h' }) :
  wpAny (model prog w) A (setItem (.ref l) (.int k t) v) Q E s := by
 have hl : s.heap.IsList l items := ⟨_, ho, rfl, _, rfl⟩
 unfold setItem
 try with_reducible refine wpAny_holding ?_
 first | refine wpAny_bind (wpAny_pure ?_) | skip
 refine wpAny_bind (wpAny_sequenceKey hl.typeIs (by decide) (wpAny_bind (wpAny_callSpecial?_slot (name := Str.ofString "__setitem__") hl.typeIs slot_list_setitem
  (wpAny_call_entry slot_list_setitem hl.typeIs entry_list_setitem ?_ (args_list_setitem _ _ _)))))
 show wpAny _ _ (Builtin.List.listSubscript? (.int k t) >>= _) _ _ s
 refine wpAny_bind (wpAny_listSubscript_int (fitsIndex_of h0 hfit) ?_)
 obtain ⟨j, rfl⟩ := Int.eq_ofNat_of_zero_le h0
 have hj : j < items.size := Int.ofNat_lt.mp hn
 show wpAny _ _ ((seqItemAt l j >>= fun r => pure (r.map (j, ·))) >>= _) _ _ s
 refine wpAny_bind (wpAny_bind (wpAny_seqItemAt ho rfl (wpAny_pure ?_)))
 rw [show items[j]? = some items[j] from Array.getElem?_eq_getElem hj]
 show wpAny _ _ (setSeqItemAt l j v >>= _) _ _ s
 have key := Heap.get?_update_self (Obj.mapSeq (·.setIfInBounds j v)) ho rfl
 have fin := hQ (s.heap.update l (Obj.mapSeq (·.setIfInBounds j v))) _ key (Heap.SameBut.update ..)
 refine wpAny_bind (wpAny_setSeqItemAt ho rfl ?_)
 first
  | exact wpAny_pure ⟨_, rfl, wpAny_pure fin⟩
  | exact wpAny_bind (wpAny_pure ⟨_, rfl, wpAny_pure fin⟩)
theorem slot_list {i : Nat} {xs : List V} (I : Inv prog w b₀ W st s.heap) (hi : i < st.n) (hf : st.f i = .list xs) : ∃ vs n, s.heap.get? (W.ρ i) = some { cls := .type "list", data := .seq (vs : List Value).toArray n } ∧ RVs w.params W st.n xs vs := by
 have ho := I.own i hi
 rw [hf] at ho
 obtain ⟨vs, ⟨⟨oc, od, oda, osl⟩, e1, e2, n, e3⟩, R, hdn⟩ := ho
 obtain ⟨d1, d2⟩ := hdn _ e1
 (obtain rfl := (e2 : _ = _)); (obtain rfl := (e3 : _ = _)); (obtain rfl := (d1 : _ = _)); (obtain rfl := (d2 : _ = _))
 exact ⟨vs, n, e1, R⟩
theorem list_turned {i : Nat} {xs ys : List V} {us : List Value} {h' : Heap} {n : Nat} (I : Inv prog w b₀ W st s.heap) (hi : i < st.n) (hf : st.f i = .list xs) (hs : Heap.SameBut (W.ρ i) s.heap h') (hn : h'.get? (W.ρ i) = some { cls := .type "list", data := .seq us.toArray n }) (R : RVs w.params W st.n ys us) :
  Inv prog w b₀ W (st.set i (.list ys)) h' ∧ Step (fAddrs A) W st s.heap W (st.set i (.list ys)) h' :=
 I.turned (ob := .list ys) hi (by rw [hf]; rfl) (.inl rfl) hs ⟨_, hn⟩ ⟨us, ⟨_, hn, rfl, _, rfl⟩, R, fun o q => by rw [hn] at q; (obtain rfl := inj1 q); exact ⟨rfl, rfl⟩⟩
theorem sim_setIdx {t : IK} {v k x : V} {rv rk rx : Value} (sm : ∃ o, b₀.get? sysModules = some o) (hu : A.units + 100 < cLine) (I : Inv prog w b₀ W st s.heap) (Rv : RV w.params W st.n v rv) (Rk : RV w.params W st.n k rk) (Rx : RV w.params W st.n x rx) :
  Sim prog w b₀ A (setItem rv rk rx) W st s RlU (setIdxV t v k x st) := by
 have lst : Sim prog w b₀ A (setItem rv rk rx) W st s RlU (setIdxV .lst v k x st) := by
  refine Sim.onO fun p hp => Sim.onO fun j hj => Sim.onP fun hb => ?_
  obtain ⟨rfl, hi, hf⟩ := slotL_real Rv hp
  obtain ⟨t, rfl⟩ := Rk.ofInt hj
  obtain ⟨vs, n, e1, R⟩ := slot_list I hi hf
  have hl := R.length
  obtain ⟨jn, rfl⟩ := Int.eq_ofNat_of_zero_le hb.1
  refine Sim.rule fun Q E hQ => set_list e1 hb.1 (by omega) (by rw [List.size_toArray, hl]; exact hb.2.1) fun h' n' hn hs => ?_
  rw [List.setIfInBounds_toArray] at hn
  obtain ⟨I', S'⟩ := list_turned (A := A) I hi hf hs hn (R.set Rx jn)
  exact hQ () W h' _ I' S' trivial
 cases t with
 | dct =>
  refine Sim.onO fun p hp => Sim.onO fun dk hdk => Sim.onP fun hb => ?_
  obtain ⟨hi, hf, rfl, _, _⟩ := dict_real sm I Rv hp
  exact Sim.rule fun Q E hQ => dict_store hu I hi hf hb.1 hb.2 (key_real Rk hdk) Rx fun h' tk I' S' => hQ () W h' tk I' S' trivial
 | tup => exact lst
 | lst => exact lst
 | byt => exact lst
theorem sim_truth {v : V} {rv : Value} (I : Inv prog w b₀ W st s.heap) (R : RV w.params W st.n v rv) : Sim prog w b₀ A (truthy rv) W st s RlB (truthV v st) :=
 Sim.onO fun b hb => by cases R.ofBool hb; exact Sim.rule fun Q E hQ => wpAny_truthy_bool (hQ b W s.heap s.toks I (.refl _ _ _) rfl)
theorem sim_unot {v : V} {rv : Value} (I : Inv prog w b₀ W st s.heap) (R : RV w.params W st.n v rv) : Sim prog w b₀ A (unaryOp .Not rv) W st s (RlV w) (M.bind (truthV v) (fun b => M.pure (.bool !b)) st) := by
 unfold truthV
 cases h : v.bool? with
 | none => exact Sim.nothing
 | some b => cases R.ofBool h; exact sim_val I fun Q E hQ => wpAny_bind (wpAny_truthy_bool (wpAny_pure (hQ _ s.toks rfl)))
theorem sim_neg {v : V} {rv : Value} (I : Inv prog w b₀ W st s.heap) (R : RV w.params W st.n v rv) : Sim prog w b₀ A (unaryOp .USub rv) W st s (RlV w) (onO v.int? (fun i => M.pure (.int (-i))) st) :=
 Sim.onO fun i hi => by obtain ⟨t, rfl⟩ := R.ofInt hi; exact sim_val I fun Q E hQ => neg_int (hQ _ _ (RV.int _ _))
theorem onO_some {α β : Type} {o : Option α} {k : α → M β} {st : St} {r : Except Nat β × St} (h : onO o k st = some r) : ∃ x, o = some x ∧ k x st = some r := by
 cases o with
 | none => exact noC h
 | some x => exact ⟨x, rfl, h⟩
theorem onP_some {β : Type} {p : Prop} [Decidable p] {m : M β} {st : St} {r : Except Nat β × St} (h : onP p m st = some r) : p ∧ m st = some r := by
 unfold onP at h
 by_cases q : p
 ·rw [if_pos q] at h; exact ⟨q, h⟩
 ·rw [if_neg q] at h; exact noC h
theorem sim_pre {v n : V} {rv rn : Value} {value : Expr} {lo hi : Option Expr} {p pos : Pos} (I : Inv prog w b₀ W st s.heap) (Rv : RV w.params W st.n v rv) (Rn : RV w.params W st.n n rn) {r : Except Nat V} {st' : St} (e : preV v n st = some (r, st'))
  {Q : Value → Shared → Prop} {E : Value → Shared → Prop} (hQ : ∀ a b W' h' tk, r = .ok a → Inv prog w b₀ W' st' h' → Step (fAddrs A) W st s.heap W' st' h' → RV w.params W' st'.n a b → Q b ⟨h', s.gens, s.drawn, tk, s.os⟩) :
  wpAny (model prog w) A (newFields "slice" [.none, rn, .none]) (fun i s' => wpAny (model prog w) A (standAt pos >>= fun _ => subscriptTail value (.Slice lo hi none p) rv i) Q E s') E s := by
 obtain ⟨k, hk, e⟩ := onO_some e
 obtain ⟨hb, e⟩ := onP_some e
 obtain ⟨xs, hx, e⟩ := onO_some e
 obtain ⟨hz, e⟩ := onP_some e
 obtain ⟨rfl, rfl⟩ := inj2 e
 obtain ⟨ad, vs, rfl, l1, r1, _⟩ := listOf_real I Rv hx
 obtain ⟨t, rfl⟩ := Rn.ofInt hk
 have hlen := r1.length
 obtain ⟨kn, rfl⟩ := Int.eq_ofNat_of_zero_le hb.1
 have e1 : slicePick vs.toArray none (some (kn : Int)) none = (vs.take kn).toArray := slicePick_upto' _ _
 unfold newFields
 refine wpAny_newObj_type ?_ (by show (3 : Nat) ≤ _; rw [sizeLine_eq]; omega)
 refine wpAny_bind (wpAny_standAt ?_)
 generalize ho : ({ cls := .type "slice", data := .fields #[.none, .int kn t, .none] } : Obj) = osl
 have l2 := l1.push osl
 unfold subscriptTail
 refine wpAny_bind ?_
 rw [getitemInPython_of_ne (by intro e; cases e)]
 have fin : ∀ b, wpAny (model prog w) A (subscripted (.Slice lo hi none p) b (.ref ad) (.ref s.heap.objs.size)) (fun r s₃ => wpAny (model prog w) A (letTemporaryGo value (.ref ad) r >>= fun _ => pure r) Q E s₃) E
   ⟨s.heap.push osl, s.gens, s.drawn, s.toks, s.os⟩ := by
  intro b
  have e2 : subscripted (.Slice lo hi none p) b (.ref ad) (.ref s.heap.objs.size) = operate [.ref s.heap.objs.size, .ref ad] (getItem (.ref ad) (.ref s.heap.objs.size)) := by cases b <;> rfl
  rw [e2]
  refine wpAny_operateT (wpAny_getItem_list_slice l2 (ho ▸ Heap.IsSliceOf.new ..) .none (.int kn t) .none (by simp) ?_ (by rw [List.size_toArray, hlen]; exact line_ten hz))
  rw [e1]
  have hp : ((s.heap.push osl).push { cls := .type "list", data := .seq (vs.take kn).toArray }).get? (s.heap.objs.size + 1) = some { cls := .type "list", data := .seq (vs.take kn).toArray } := by
   have := Heap.get?_push_size (s.heap.push osl) (o := { cls := .type "list", data := .seq (vs.take kn).toArray }) rfl
   rwa [Heap.size_push] at this
  obtain ⟨W', I', S', R'⟩ := newList_at I (r1.take kn) (fun b o e => Heap.get?_push_of_some _ (Heap.get?_push_of_some _ e)) (Heap.get?_none_of_le (Nat.le_succ _)) hp
  refine wpAny_bind (wpAny_letTemporaryGo (wpAny_pure ?_))
  rw [Heap.size_push]
  exact hQ _ _ W' _ s.toks rfl I' S' R'
 refine wpAny_bind (wpAny_specialOf (T := "list") l2.typeIs slot_list_getitem.lookup ?_)
 first
  | exact fin false
  | exact wpAny_pure (fin false)
  | exact wpAny_pure (wpAny_bind (fin false))
  | exact wpAny_bind (fin false)
end
end Mine
end
section
open PySem PySem.W PyProof.Rows PySem.Spec
namespace Mine
section
variable {α : Type} (le : α → α → Bool)
theorem ins_perm (a : α) : ∀ l : List α, (ins le a l).Perm (a :: l)
 | [] => .refl _
 | b :: r => by
  unfold ins
  split
  ·exact .refl _
  ·exact ((ins_perm a r).cons b).trans (.swap a b r)
theorem isort_perm : ∀ l : List α, (isort le l).Perm l
 | [] => .refl _
 | a :: r => (ins_perm le a _).trans ((isort_perm r).cons a)
theorem ins_sorted (tot : ∀ a b, le a b = false → le b a = true) (tr : ∀ a b c, le a b = true → le b c = true → le a c = true) (a : α) : ∀ l : List α, l.Pairwise (fun x y => le x y = true) → (ins le a l).Pairwise (fun x y => le x y = true)
 | [], _ => List.pairwise_singleton ..
 | b :: r, h => by
  unfold ins
  obtain ⟨h1, h2⟩ := List.pairwise_cons.mp h
  split
  ·rename_i q
   refine List.pairwise_cons.mpr ⟨fun x hx => ?_, h⟩
   rcases List.mem_cons.mp hx with rfl | hx
   ·exact q
   ·exact tr _ _ _ q (h1 x hx)
  ·rename_i q
   refine List.pairwise_cons.mpr ⟨fun x hx => ?_, ins_sorted tot tr a r h2⟩
   rcases List.mem_cons.mp ((ins_perm le a r).mem_iff.mp hx) with rfl | hx
   ·exact tot _ _ (by simpa using q)
   ·exact h1 x hx
theorem isort_sorted (tot : ∀ a b, le a b = false → le b a = true) (tr : ∀ a b c, le a b = true → le b c = true → le a c = true) : ∀ l : List α, (isort le l).Pairwise (fun x y => le x y = true)
 | [] => .nil
 | a :: r => ins_sorted le tot tr a _ (isort_sorted tot tr r)
theorem isort_unique (tot : ∀ a b, le a b = false → le b a = true) (tr : ∀ a b c, le a b = true → le b c = true → le a c = true) (anti : ∀ a b, le a b = true → le b a = true → a = b) {l l' : List α} (p : l'.Perm l) (h : l'.Pairwise (fun x y => le x y = true)) : l' = isort le l :=
 List.Perm.eq_of_pairwise (le := fun x y => le x y = true) (fun a b _ _ x y => anti a b x y) h (isort_sorted le tot tr l) (p.trans (isort_perm le l).symm)
end
theorem int_sorted {l l' : List Int} (p : l'.Perm l) (h : l'.Pairwise (· ≤ ·)) : l' = isort intLe l :=
 isort_unique intLe (fun a b => by simp [intLe]; omega) (fun a b c => by simp [intLe]; omega) (fun a b => by simp [intLe]; omega) p (h.imp fun h => by simpa [intLe] using h)
theorem strLe_eq (a b : Str) : strLe a b = decide (a.cps.toList ≤ b.cps.toList) := by
 unfold strLe
 rw [ltCps_eq]
 rw [Bool.eq_iff_iff, Bool.not_eq_true', decide_eq_false_iff_not, decide_eq_true_eq]
 exact Iff.rfl
theorem str_le_tr (a b c : Str) (h1 : strLe a b = true) (h2 : strLe b c = true) : strLe a c = true := by
 rw [strLe_eq, decide_eq_true_eq] at *
 exact List.le_trans h1 h2
theorem str_ext {a b : Str} (h : a.cps.toList = b.cps.toList) : a = b := by
 obtain ⟨⟨x⟩⟩ := a; obtain ⟨⟨y⟩⟩ := b; (obtain rfl := (h : _ = _)); rfl
theorem risingS_pairwise : ∀ (p : Str) (l : List Str), risingS p l = true → (p :: l).Pairwise (fun x y => strLe x y = true)
 | p, [], _ => List.pairwise_singleton ..
 | p, x :: r, h => by
  change (!ltCps x.cps.toList p.cps.toList && risingS x r) = true at h
  rw [Bool.and_eq_true] at h
  have ih := risingS_pairwise x r h.2
  refine List.pairwise_cons.mpr ⟨fun y hy => ?_, ih⟩
  rcases List.mem_cons.mp hy with rfl | hy
  ·exact h.1
  ·exact str_le_tr _ _ _ h.1 ((List.pairwise_cons.mp ih).1 y hy)
theorem str_sorted {l l' : List Str} (p : l'.Perm l) (h : sortedS l' = true) : l' = isort strLe l := by
 refine isort_unique strLe (fun a b h => ?_) str_le_tr (fun a b h1 h2 => ?_) p ?_
 ·rw [strLe_eq] at *
  simp only [decide_eq_false_iff_not, decide_eq_true_eq] at *
  rcases List.le_total (l₁ := a.cps.toList) b.cps.toList with q | q
  ·exact absurd q h
  ·exact q
 ·rw [strLe_eq, decide_eq_true_eq] at *
  exact str_ext (List.le_antisymm h1 h2)
 ·cases l' with
  | nil => exact .nil
  | cons x r => exact risingS_pairwise x r h
end Mine
end
section
open PySem PyProof.Rows
namespace Mine
theorem by_lookup : typeLookup (.type "bytes") "__bytes__" = pure (some (.builtin "bytes.__bytes__")) := by rw [typeLookup_type, builtinLookup_eq_fast]; kernel_rfl
section
variable {prog : Program} {w : World} {A : Around} {E : Value → Shared → Prop} {s : Shared}
theorem bytes_new_same (d : Array UInt8) (t : Tok) : MeetsIn prog w (Builtin.«bytes.__new__» ⟨[.type "bytes", .bytes d t], []⟩) (fun _ R s => R (.ok (.ret (.bytes d t))) s) :=
 .of_wp fun A R s h => by
  have hT : s.TypeIs (.bytes d t) "bytes" := PySem.W.typeIs_bytes _ _ _
  unfold Builtin.«bytes.__new__»
  refine wpAny_bind (wpAny_of_eq (a := true) rfl ?_)
  refine bm_if_false rfl ?_
  refine wpAny_bind (wpAny_of_eq F.bm_sub ?_)
  refine bm_if_false rfl ?_
  refine wpAny_bind (wpAny_of_eq (F.bm_bind _) ?_)
  refine wpAny_bind (wpAny_of_eq (a := ()) rfl ?_)
  refine wpAny_bind (wpAny_of_eq (a := ()) rfl ?_)
  refine bm_if_false rfl ?_
  refine wpAny_bind (wpAny_specialOf hT by_lookup ?_)
  refine wpAny_bind (wpAny_rule (wpAny_bind (wpAny_typeOf hT ?_)))
  refine bm_if_true rfl ?_
  exact wpAny_pure ⟨_, rfl, h⟩
theorem bytes_same {d : Array UInt8} {t : Tok} {Q : Value → Shared → Prop} (h : Q (.bytes d t) s) : wpAny (model prog w) A (call (.type "bytes") [.bytes d t]) Q E s :=
 callType_newIn F.bm_called (by decide) (F.bm_typeCall _) (F.bm_newCall _) (fun obj => F.args_object_init_2 obj _) F.bm_entry (bytes_new_same d t) ⟨PySem.W.typeIs_bytes _ _ _, h⟩
end
end Mine
end
section
open PySem PyProof.Rows
open Sem (wp)
namespace Mine
theorem keys_none : typeLookup (.type "list") "keys" = pure none := by rw [typeLookup_type, builtinLookup_eq_fast]; kernel_rfl
section
variable {prog : Program} {w : World} {A : Around} {E : Value → Shared → Prop} {s : Shared}
theorem keys_by {a : Addr} {xs : Array Value} {k : Nat} {sl : Array (Option Value)} {tk : Tok} {Q : Value → Shared → Prop}
  (hx : s.heap.get? a = some { cls := .type "list", dict := none, data := .seq xs k, slots := sl }) (hA : A.handled = none)
  (h : ∀ h' tk e, Heap.NewAttrErr s.heap h' e (.ref a) "keys" → E (.ref e) { s with heap := h', toks := tk }) : wpAny (model prog w) A (getAttrBy (.ref a) (.str "keys" tk) false) Q E s := by
 obtain ⟨hp, g, d, t0, os⟩ := s
 have hT : ∀ tk', (⟨hp, g, d, tk', os⟩ : Shared).TypeIs (.ref a) "list" := fun _ => ⟨_, hx, rfl⟩
 have f1 := sub_AttributeError
 have f3 := F.slot_list_getattribute.lookup
 have f4 := F.slot_list_getattribute.bind (.ref a)
 have f5 := am_list_getattr_none
 unfold getAttrBy
 repeat (any_goals (first | assumption | exact hT _ | ((with_reducible show wpAny _ _ (call (Value.builtin "list.__getattribute__") _ _) _ _ _); refine call_meets F.slot_list_getattribute (hT _) am_entry_list_getattribute (F.args_list_getattribute_2 _ _) (meets_getattribute_miss_list a xs k sl "keys" _ keys_none (by decide) (by size_fits)) ⟨hx, hA, fun h' tk' e hx' => ?_⟩) | wp_step))
 obtain ⟨t', u', he⟩ := hx'.there
 show wpAny _ _ (getattributeRaised _ _ _ _ _ _ _) _ _ _
 unfold getattributeRaised
 repeat (any_goals (first | assumption | wp_step))
 exact h _ _ _ hx'
theorem keys_miss {a : Addr} {xs : Array Value} {k : Nat} {sl : Array (Option Value)} {Q : Option Value → Shared → Prop}
  (hx : s.heap.get? a = some { cls := .type "list", dict := none, data := .seq xs k, slots := sl }) (hA : A.handled = none)
  (h : ∀ h' tk, (∀ b o, s.heap.get? b = some o → h'.get? b = some o) → Q none { s with heap := h', toks := tk }) : wpAny (model prog w) A (getAttr? (.ref a) "keys") Q E s := by
 unfold getAttr? getAttrBy?
 refine wpAny_bind (wpAny_mkText (wpAny_bind (wpAny_attempt (keys_by (s := { s with toks := s.toks + 1 }) hx hA fun h' tk e hx' => ?_))))
 obtain ⟨t', u', he⟩ := hx'.there
 refine wpAny_bind (wpAny_isInstance ⟨_, he, rfl⟩ sub_AttributeError ?_)
 exact wpAny_pure (h h' tk hx'.keeps)
theorem dl_entry : entryFor table "dict.update.loop" = some Builtin.«dict.update.loop» := by first | exact entryFor_of_fast (by kernel_rfl) | exact entryFor_of_tree (by kernel_rfl)
theorem dl_plain : plainId "dict.update.loop" = true := by decide +kernel
theorem stored_take {K : Type} [DecidableEq K] {kvs : List (K × Value)} (hn : (kvs.map (·.1)).Nodup) {i : Nat} {k : K} {v : Value} (e : kvs[i]? = some (k, v)) : stored (kvs.take i) k v = kvs.take (i + 1) := by
 have hlt := (List.getElem?_eq_some_iff.mp e).1
 have hg := (List.getElem?_eq_some_iff.mp e).2
 rw [List.take_add_one, e]
 unfold stored
 rw [if_neg]
 ·rfl
 ·intro q
  obtain ⟨x, hx, hk⟩ := List.any_eq_true.mp q
  have hk : x.1 = k := by simpa using hk
  obtain ⟨j, hj, ej⟩ := List.mem_take_iff_getElem.mp hx
  have h1 : j < kvs.length := by omega
  have := List.pairwise_iff_getElem.mp hn j i (by simpa using h1) (by simpa using hlt) (by omega)
  apply this
  rw [List.getElem_map, List.getElem_map, hg, ej]
  exact hk
theorem dict_loop {R : Result → Shared → Prop} {l I D : Addr} {vs : List Value} {kvs : List (Str × Value)} (hh : A.handled = none) (hn : (kvs.map (·.1)).Nodup) (hlen : vs.length = kvs.length) (hz : kvs.length ≤ 1000)
  (hID : I ≠ D) (hlI : l ≠ I) (hlD : l ≠ D) :
  ∀ (m i : Nat) (s : Shared), kvs.length - i = m → i ≤ kvs.length → s.heap.IsList l vs.toArray → s.heap.IsListIter I l i → s.heap.DictOf (PySem.strKind prog w) D (kvs.take i) →
   (∀ (j : Nat) (v : Value), vs[j]? = some v → ∃ a k t x n, v = .ref a ∧ a ≠ I ∧ a ≠ D ∧ s.heap.get? a = some { cls := .type "tuple", data := .seq #[.str k t, x] n } ∧ kvs[j]? = some (k, x)) →
   (∀ h' tk, h'.DictOf (PySem.strKind prog w) D kvs → (∀ b o, b ≠ I → b ≠ D → s.heap.get? b = some o → h'.get? b = some o) → R (.ok (.ret .none)) { s with heap := h', toks := tk }) →
   codeAny (model prog w) A (.builtin "dict.update.loop" ⟨[.ref D, .ref I, .int i 0, .none], []⟩) R s := by
 intro m
 induction m with
 | zero =>
  intro i s hk hle hl hit hd hp hR
  have hin : i = kvs.length := by omega
  subst hin
  refine codeAny_builtin dl_entry ?_
  rw [Around.under_plainId dl_plain _]
  unfold Builtin.«dict.update.loop»
  refine wpAny_bind (wpAny_pyNext_list_end hh hit hl (by simp [hlen]) fun h' he => ?_)
  rw [List.take_length] at hd
  have hd' : h'.DictOf (PySem.strKind prog w) D kvs := by
   obtain ⟨o, es, ep, h1, r⟩ := hd
   exact ⟨o, es, ep, he D _ (Ne.symm hID) h1, r⟩
  have fin := hR h' s.toks hd' fun b o hb _ e => he b o hb e
  first
   | exact wpAny_bind (wpAny_pure (wpAny_pure fin))
   | exact wpAny_pure fin
 | succ m ih =>
  intro i s hk hle hl hit hd hp hR
  have hlt : i < kvs.length := by omega
  obtain ⟨v, hv⟩ : ∃ v, vs[i]? = some v := ⟨vs[i]'(by omega), List.getElem?_eq_getElem (by omega)⟩
  obtain ⟨a, k, t, x, n, rfl, haI, haD, ha, hkv⟩ := hp i v hv
  refine codeAny_builtin dl_entry ?_
  rw [Around.under_plainId dl_plain _]
  unfold Builtin.«dict.update.loop»
  refine wpAny_bind (wpAny_pyNext_list_item (x := .ref a) hit hl (by simpa using hv) fun h' hit' hs => ?_)
  have ha' : h'.get? a = some { cls := .type "tuple", data := .seq #[.str k t, x] n } := (hs.2 a haI).trans ha
  have hd' : h'.DictOf (PySem.strKind prog w) D (kvs.take i) := hd.sameBut hs (Ne.symm hID)
  have hTa : ({ s with heap := h' } : Shared).TypeIs (.ref a) "tuple" := ⟨_, ha', rfl⟩
  refine wpAny_bind (wpAny_holding (wpAny_bind (wpAny_tryCatch ?_)))
  unfold Builtin.Dict.pairItems
  refine wpAny_bind (wpAny_typeOf hTa ?_)
  refine bm_if_true (by decide) ?_
  refine wpAny_bind (wpAny_seqItems ha' rfl (wpAny_pure ?_))
  show wpAny _ _ (holding [.str k t, x] (dictSet D (.str k t) x)) _ _ _
  refine wpAny_holding (wpAny_dictSet_pairs (Mine.str_is (prog := prog) (w := w) k t) hd' (fun h'' hd'' hs'' => ?_) (by rw [List.length_take, sizeLine_eq]; omega))
  rw [stored_take hn hkv] at hd''
  refine wpAny_pure ⟨plainId_quiet dl_plain _, ?_⟩
  refine ih (i + 1) _ (by omega) hlt ?_ ?_ hd'' ?_ ?_
  ·exact (hl.extBut hs.extBut hlI).extBut hs''.extBut hlD
  ·exact hit'.extBut hs''.extBut hID
  ·intro j v e
   obtain ⟨a, k, t, x, n, e1, e2, e3, e4, e5⟩ := hp j v e
   exact ⟨a, k, t, x, n, e1, e2, e3, (hs''.2 a e3).trans ((hs.2 a e2).trans e4), e5⟩
  ·intro h3 tk hd3 hk3
   exact hR h3 tk hd3 fun b o h1 h2 e => hk3 b o h1 h2 ((hs''.2 b h2).trans ((hs.2 b h1).trans e))
theorem dict_pairs {l : Addr} {vs : List Value} {kvs : List (Str × Value)} {Q : Value → Shared → Prop} (hh : A.handled = none) (hn : (kvs.map (·.1)).Nodup) (hlen : vs.length = kvs.length) (hz : kvs.length ≤ 1000)
  (hl : s.heap.IsList l vs.toArray) (hdn : ∀ o, s.heap.get? l = some o → o.dict = none)
  (hp : ∀ (j : Nat) (v : Value), vs[j]? = some v → ∃ a k t x n, v = .ref a ∧ s.heap.get? a = some { cls := .type "tuple", data := .seq #[.str k t, x] n } ∧ kvs[j]? = some (k, x))
  (h : ∀ h' tk, h'.DictOf (PySem.strKind prog w) s.heap.objs.size kvs → (∀ b o, s.heap.get? b = some o → h'.get? b = some o) → Q (.ref s.heap.objs.size) { s with heap := h', toks := tk }) :
  wpAny (model prog w) A (call (.type "dict") [.ref l]) Q E s := by
 refine callType_codes (Q₁ := fun obj s₁ => obj = .ref s.heap.objs.size ∧ s₁ = { s with heap := s.heap.push { cls := .type "dict", data := .dict #[] } }) F.kt_called_dict (F.kt_typeCall_dict_1 _) F.entry_dict_init (kt_code_dict_new _ ⟨rfl, rfl⟩) ?_
 rintro obj s₁ ⟨rfl, rfl⟩
 have hnew : (s.heap.push { cls := .type "dict", data := .dict #[] }).DictOf (PySem.strKind prog w) s.heap.objs.size [] := Heap.DictOf.new s.heap
 obtain ⟨⟨c1, dd, da, sl⟩, ho, hc, n, hd⟩ := id hl
 have hdd := hdn _ ho
 simp only at hc hd hdd
 subst hc hd hdd
 have hlt : l < s.heap.objs.size := Heap.lt_size ho
 refine ⟨hnew.typeIs, F.args_dict_init_2 _ _, ?_⟩
 unfold Builtin.«dict.__init__»
 refine wpAny_bind ?_
 unfold Builtin.Dict.selfAndRest
 refine wpAny_bind (wpAny_notOrdered_dict hnew.typeIs ?_)
 show wpAny _ _ (pure (s.heap.objs.size, [Value.ref l])) _ _ _
 refine wpAny_pure ?_
 show wpAny _ _ (Builtin.Dict.updateFrom "dict.__init__" s.heap.objs.size (.ref l) [] .none) _ _ _
 unfold Builtin.Dict.updateFrom
 have l1 := hl.push { cls := .type "dict", data := .dict #[] }
 have ho1 : (s.heap.push { cls := .type "dict", data := .dict #[] }).get? l = _ := Heap.get?_push_of_some _ ho
 refine wpAny_bind (wpAny_typeOf l1.typeIs ?_)
 rw [if_pos (by decide)]
 refine wpAny_bind (keys_miss (s := { s with heap := s.heap.push { cls := .type "dict", data := .dict #[] } }) ho1 hh fun h2 tk2 hk2 => ?_)
 refine bm_if_true rfl ?_
 have l2 : h2.IsList l vs.toArray := ⟨_, hk2 _ _ ho1, rfl, _, rfl⟩
 have hs2 : s.heap.objs.size < h2.objs.size := Heap.lt_size (hk2 _ _ (Heap.get?_push_size (h := s.heap) (o := { cls := .type "dict", data := .dict #[] }) rfl))
 refine wpAny_bind (wpAny_rule (wpAny_bind (wpAny_pyIter_list l2 ?_)))
 refine wpAny_pure ⟨plainId_quiet dl_plain _, ?_⟩
 have hd0 : h2.DictOf (PySem.strKind prog w) s.heap.objs.size [] := by
  obtain ⟨o, es, ep, h1, r⟩ := hnew
  exact ⟨o, es, ep, hk2 _ _ h1, r⟩
 refine dict_loop (A := A.in1) (prog := prog) (w := w) (I := h2.objs.size) (D := s.heap.objs.size) hh hn hlen hz (Nat.ne_of_gt hs2) (Nat.ne_of_lt (Nat.lt_trans hlt hs2)) (Nat.ne_of_lt hlt) kvs.length 0 _ rfl (Nat.zero_le _) ?_ ?_ ?_ ?_ ?_
 ·exact l2.push _
 ·exact ⟨_, Heap.get?_push_size _ rfl, rfl, rfl⟩
 ·rw [List.take_zero]; exact hd0.push _
 ·intro j v e
  obtain ⟨a, k, t, x, n, e1, e4, e5⟩ := hp j v e
  have hla := Heap.lt_size e4
  exact ⟨a, k, t, x, n, e1, Nat.ne_of_lt (Nat.lt_trans hla hs2), Nat.ne_of_lt hla, Heap.get?_push_of_some _ (hk2 _ _ (Heap.get?_push_of_some _ e4)), e5⟩
 ·intro h3 tk hd3 hk3
  exact ⟨rfl, h h3 tk hd3 fun b o e => hk3 b o (Nat.ne_of_lt (Nat.lt_trans (Heap.lt_size e) hs2)) (Nat.ne_of_lt (Heap.lt_size e)) (Heap.get?_push_of_some _ (hk2 _ _ (Heap.get?_push_of_some _ e)))⟩
end
end Mine
end
section
open PySem PySem.W PyProof.Rows PySem.Calls PySem.SeqAt
namespace Mine
section
variable {prog : Program} {w : World} {b₀ : Heap} {W : Wd} {st : St} {s : Shared} {A : Around}
theorem ints_real {n : Nat} {vs : List Value} {l : List Int} (h : IntsAre vs l) : RVs w.params W n (l.map V.int) vs := by
 induction h with
 | nil => rfl
 | cons i t r ih => exact ⟨_, _, rfl, RV.int i t, ih⟩
theorem strs_real {n : Nat} {vs : List Value} {l : List Str} (h : StrsAre vs l) : RVs w.params W n (l.map V.str) vs := by
 induction h with
 | nil => rfl
 | cons i t r ih => exact ⟨_, _, rfl, RV.str i t, ih⟩
theorem keys_int {n : Nat} {es : List (DK × V)} : ∀ {l : List Int}, intsOf (dkeys es) = some l → sameKind (.i 0) es = true ∧ ∀ {kvs : List (Int × Value)}, DP w.params W n DK.i es kvs → kvs.map (·.1) = l := by
 induction es with
 | nil => intro l e; (obtain rfl := inj1 e); exact ⟨rfl, fun h => by (obtain rfl := (h : _ = _)); rfl⟩
 | cons e es ih =>
  intro l h
  obtain ⟨i, hi, h⟩ := bndS h
  obtain ⟨l', hl, rfl⟩ := mapS h
  obtain ⟨h1, h2⟩ := ih hl
  obtain ⟨k, v⟩ := e
  cases k with
  | s x => exact noC hi
  | p x y => exact noC hi
  | i x =>
   obtain rfl := inj1 hi
   exact ⟨h1, fun h => by obtain ⟨k', rv, r, rfl, e1, _, h3⟩ := h; cases e1; exact congrArg (_ :: ·) (h2 h3)⟩
theorem keys_str {n : Nat} {es : List (DK × V)} : ∀ {l : List Str}, strsOf (dkeys es) = some l → sameKind (.s "") es = true ∧ ∀ {kvs : List (Str × Value)}, DP w.params W n DK.s es kvs → kvs.map (·.1) = l := by
 induction es with
 | nil => intro l e; (obtain rfl := inj1 e); exact ⟨rfl, fun h => by (obtain rfl := (h : _ = _)); rfl⟩
 | cons e es ih =>
  intro l h
  obtain ⟨i, hi, h⟩ := bndS h
  obtain ⟨l', hl, rfl⟩ := mapS h
  obtain ⟨h1, h2⟩ := ih hl
  obtain ⟨k, v⟩ := e
  cases k with
  | i x => exact noC hi
  | p x y => exact noC hi
  | s x =>
   obtain rfl := inj1 hi
   exact ⟨h1, fun h => by obtain ⟨k', rv, r, rfl, e1, _, h3⟩ := h; cases e1; exact congrArg (_ :: ·) (h2 h3)⟩
theorem strs_at : ∀ {ks : List Str} {vs : List Value}, vs.length = ks.length → (∀ (j : Nat) (v : Value), vs[j]? = some v → ∃ k, ks[j]? = some k ∧ (PySem.strKind prog w).is k v = true) → StrsAre vs ks := by
 intro ks
 induction ks with
 | nil => intro vs hl _; cases List.eq_nil_of_length_eq_zero hl; exact .nil
 | cons k ks ih =>
  intro vs hl h
  cases vs with
  | nil => cases hl
  | cons v vs =>
   obtain ⟨k', e, hk⟩ := h 0 v rfl
   obtain rfl := inj1 e
   obtain ⟨t, rfl⟩ := Value.isStrOf_shape hk
   exact .cons k t (ih (Nat.succ.inj hl) fun j v e => h (j + 1) v e)
theorem ints_at : ∀ {ks : List Int} {vs : List Value}, vs.length = ks.length → (∀ (j : Nat) (v : Value), vs[j]? = some v → ∃ k, ks[j]? = some k ∧ (PySem.intKind prog w).is k v = true) → IntsAre vs ks := by
 intro ks
 induction ks with
 | nil => intro vs hl _; cases List.eq_nil_of_length_eq_zero hl; exact .nil
 | cons k ks ih =>
  intro vs hl h
  cases vs with
  | nil => cases hl
  | cons v vs =>
   obtain ⟨k', e, hk⟩ := h 0 v rfl
   obtain rfl := inj1 e
   obtain ⟨t, rfl⟩ := Value.isInt_shape hk
   exact .cons k t (ih (Nat.succ.inj hl) fun j v e => h (j + 1) v e)
theorem sorted_of {K : Type} [DecidableEq K] {knd : KeyKind prog w K} {d : Addr} {kvs : List (K × Value)} {ys : List V} {Q : Value → Shared → Prop} {E : Value → Shared → Prop} (hh : A.handled = none) (lo : (d == sysModules) = false) (hd : s.heap.DictOf knd d kvs) (h64 : kvs.length < 64)
  (hk : ∀ vs : List Value, vs.length = kvs.length → (∀ (j : Nat) (v : Value), vs[j]? = some v → ∃ k, (kvs.map (·.1))[j]? = some k ∧ knd.is k v = true) → (∃ ns, IntsAre vs ns ∧ ys = (isort intLe ns).map V.int) ∨ ∃ ss, StrsAre vs ss ∧ ys = (isort strLe ss).map V.str)
  (h : ∀ (us : List Value) (h' : Heap) (tk : Nat) (D : Addr), RVs w.params W st.n ys us → (∀ b o, s.heap.get? b = some o → h'.get? b = some o) → s.heap.get? D = none → (∃ k, h'.get? D = some (seqObj "list" us.toArray k)) → Q (.ref D) { s with heap := h', toks := tk }) :
  wpAny (model prog w) A (call (.builtin "sorted") [.ref d]) Q E s := by
 obtain ⟨ep, hat⟩ := hd.dictAt
 refine call_function_entry kind_sorted plain_sorted entry_sorted (args_sorted1 _) ?_
 unfold Builtin.«sorted»
 refine wpAny_bind (m := checkCount "sorted" 1 1 _) (wpAny_pure ?_)
 refine wpAny_bind (kdu_collect (A := A.in1) (kdl_dict (knd := knd) (kvs := kvs) (ep := ep) lo) hh hat (by rw [sizeLine_eq]; omega) fun h' tk acc hkeep hacc => ?_)
 have hl : acc.toList.length = kvs.length := by rw [Array.length_toList]; exact hacc.1
 refine wpAny_bind (wpAny_newList ?_ (by rw [hl, sizeLine_eq]; omega))
 have hoL : (h'.push { cls := .type "list", data := .seq acc.toList.toArray }).get? h'.objs.size = some (seqObj "list" acc.toList.toArray 0) := Heap.get?_push_size _ rfl
 have hsz := Heap.lt_size hoL
 have hD : s.heap.get? h'.objs.size = none := by
  cases q : s.heap.get? h'.objs.size with
  | none => rfl
  | some o => exact absurd (Heap.lt_size (hkeep _ _ q)) (Nat.lt_irrefl _)
 have old : ∀ (out : Array Value) b o, s.heap.get? b = some o → (sortedHeap (h'.push { cls := .type "list", data := .seq acc.toList.toArray }) h'.objs.size acc.toList out).get? b = some o := fun out b o e => by
  have e1 := hkeep _ _ e
  rw [sortedHeap_old (Nat.ne_of_lt (Heap.lt_size e1)) (Nat.lt_trans (Heap.lt_size e1) hsz)]
  exact Heap.get?_push_of_some _ e1
 rcases hk acc.toList hl (fun j v e => by
  obtain ⟨k, x, e1, e2⟩ := hacc.2 j v (by rw [← Array.getElem?_toList]; exact e)
  exact ⟨k, by rw [List.getElem?_map, e1]; rfl, e2⟩) with ⟨ns, hI, rfl⟩ | ⟨ss, hS, rfl⟩
 ·refine wpAny_bind (wpAny_holding (wpAny_call_entry slot_list_sort ⟨_, hoL, rfl⟩ entry_list_sort (list_sort_tree hoL hI (by omega) fun out ns' a1 a2 a3 => ⟨_, rfl, ?_⟩) (args_list_sort _)))
  cases int_sorted a2 a3
  obtain ⟨e, he⟩ := sortedHeap_at (out := out) (vs := acc.toList) hoL
  exact wpAny_pure ⟨_, rfl, h out.toList _ tk _ (ints_real a1) (old out) hD ⟨e, by rw [Array.toArray_toList]; exact he⟩⟩
 ·refine wpAny_bind (wpAny_holding (wpAny_call_entry slot_list_sort ⟨_, hoL, rfl⟩ entry_list_sort (list_sort_treeK strKind_oneLt hoL hS.keysOf (fun v₁ v₂ rest e => keyKind_strs (by rw [← e]; exact hS)) (by omega) fun st' hp hs => ⟨_, rfl, ?_⟩) (args_list_sort _)))
  obtain ⟨ss', h1, h2, h3⟩ := sorted_out_str hS hp hs
  cases str_sorted h2 h3
  obtain ⟨e, he⟩ := sortedHeap_at (out := (arrOf st').map (·.2)) (vs := acc.toList) hoL
  exact wpAny_pure ⟨_, rfl, h _ _ tk _ (strs_real h1) (old _) hD ⟨e, by rw [Array.toArray_toList]; exact he⟩⟩
theorem pairs_real {n : Nat} {h : Heap} (hB : ∀ a o, W.B a = some o → h.get? a = some o) {xs : List V} : ∀ {vs : List Value} {kvs : List (Str × V)}, RVs w.params W n xs vs → allOf pairOf xs = some kvs →
  ∃ rkvs : List (Str × Value), rkvs.map (·.1) = kvs.map (·.1) ∧ vs.length = rkvs.length ∧ DP w.params W n DK.s (kvs.map fun p => (DK.s p.1, p.2)) rkvs ∧
   ∀ (j : Nat) (v : Value), vs[j]? = some v → ∃ a k t x n, v = .ref a ∧ h.get? a = some { cls := .type "tuple", data := .seq #[.str k t, x] n } ∧ rkvs[j]? = some (k, x) := by
 induction xs with
 | nil => intro vs kvs R e; (obtain rfl := (R : _ = _)); (obtain rfl := inj1 e); exact ⟨[], rfl, rfl, rfl, fun j v e => by rw [List.getElem?_nil] at e; (exact noC e)⟩
 | cons x xs ih =>
  intro vs kvs R e
  obtain ⟨r, rs, rfl, p, R⟩ := R
  obtain ⟨kv, hx, e⟩ := bndS e
  obtain ⟨kvs', e', rfl⟩ := mapS e
  obtain ⟨us, h1, hx⟩ := bndS hx
  obtain ⟨q, h2, hx⟩ := bndS hx
  obtain ⟨k, h3, rfl⟩ := mapS hx
  obtain ⟨a, ws, kk, rfl, g1, g2⟩ := p.ofTup h1
  obtain ⟨r1, r2, rfl, R1, R2⟩ := g2.ofTwo h2
  obtain ⟨t, rfl⟩ := R1.ofStr h3
  obtain ⟨rk, q1, q2, q3, q4⟩ := ih R e'
  refine ⟨(k, r2) :: rk, congrArg (k :: ·) q1, congrArg (· + 1) q2, ⟨k, r2, rk, rfl, rfl, R2, q3⟩, fun j v ej => ?_⟩
  cases j with
  | zero => (obtain rfl := inj1 ej); exact ⟨a, k, t, r2, kk, rfl, hB _ _ g1, rfl⟩
  | succ j => exact q4 j v ej
theorem newDict_at {h' : Heap} {a : Addr} {es : List (DK × V)} (I : Inv prog w b₀ W st s.heap) (hk : ∀ b o, s.heap.get? b = some o → h'.get? b = some o) (hn : s.heap.get? a = none) (hd : DRel prog w (W.slot st.n a a) (st.n + 1) h' a es) :
  ∃ W', Inv prog w b₀ W' (st.push (.dict es)) h' ∧ Step (fAddrs A) W st s.heap W' (st.push (.dict es)) h' ∧ RV w.params W' (st.n + 1) (.ref st.n) (.ref a) := by
 obtain ⟨I', S'⟩ := I.slotted (h' := h') (a := a) (d := a) (ob := .dict es) hk hn hn hd.slotted hd.slotted (show DRel prog w (W.slot st.n a a) (st.n + 1) h' ((W.slot st.n a a).ρ st.n) es by rw [Wd.slot_ρ]; exact hd)
 exact ⟨_, I', S', by rw [Wd.slot_ρ], lts _⟩
theorem sim_rng {a b c : Int} {u v x : Tok} {t : Sem Value} (I : Inv prog w b₀ W st s.heap)
  (h : ∀ (Q : Value → Shared → Prop) (E : Value → Shared → Prop), (∀ tk, Q (.ref s.heap.objs.size) ⟨s.heap.push { cls := .type "range", data := .fields #[.int a u, .int b v, .int c x] }, s.gens, s.drawn, tk, s.os⟩) → wpAny (model prog w) A t Q E s) : Sim prog w b₀ A t W st s (RlV w) (some (.ok (.rng a b c), st)) := by
 refine Sim.rule fun Q E hQ => h Q E fun tk => ?_
 obtain ⟨I', S'⟩ := I.frozen (F := fAddrs A) (fun b o e => Heap.get?_push_of_some _ e) (Heap.get?_none_of_le (Nat.le_refl _)) (Heap.get?_push_size (h := s.heap) (o := { cls := .type "range", data := .fields #[.int a u, .int b v, .int c x] }) rfl)
 exact hQ _ _ _ tk I' S' ⟨_, u, v, x, rfl, if_pos rfl⟩
theorem sim_bi {b : BI} {vs : List V} {rvs : List Value} {q : Bool} (sm : ∃ o, b₀.get? sysModules = some o) (hh : q = true → A.handled = none) (I : Inv prog w b₀ W st s.heap) (R : RVs w.params W st.n vs rvs) :
  Sim prog w b₀ A (call (biVal b) rvs) W st s (RlV w) (biV q b vs st) := by
 have sorted : ∀ {K : Type} [DecidableEq K] {knd : KeyKind prog w K} {d : Addr} {kvs : List (K × Value)} {ys : List V}, q = true → (d == sysModules) = false → s.heap.DictOf knd d kvs → kvs.length < 64 →
   (∀ vs : List Value, vs.length = kvs.length → (∀ (j : Nat) (v : Value), vs[j]? = some v → ∃ k, (kvs.map (·.1))[j]? = some k ∧ knd.is k v = true) → (∃ ns, IntsAre vs ns ∧ ys = (isort intLe ns).map V.int) ∨ ∃ ss, StrsAre vs ss ∧ ys = (isort strLe ss).map V.str) →
   Sim prog w b₀ A (call (.builtin "sorted") [.ref d]) W st s (RlV w) (mPush (.list ys) st) := by
  intro K _ knd d kvs ys hq lo hd h64 hk
  refine Sim.rule fun Q E hQ => sorted_of (W := W) (st := st) (hh hq) lo hd h64 hk fun us h' tk D R hk hD hn => ?_
  obtain ⟨k, hn⟩ := hn
  obtain ⟨W', I', S', R'⟩ := newList_at I R hk hD hn
  exact hQ _ W' h' tk I' S' R'
 cases b with
 | lenB =>
  refine Sim.onO fun v hv => Sim.onO fun l hl => Sim.onP fun hz => ?_
  obtain ⟨rv, rfl, Rv⟩ := R.ofOne hv
  obtain ⟨t, rfl, _⟩ := Rv.ofBytes hl
  refine sim_val I fun Q E hQ => PySem.W.len_bytes (by rw [bytesArr_size]; exact hz) ?_
  rw [bytesArr_size]
  exact hQ _ _ (RV.int _ _)
 | lenL =>
  refine Sim.onO fun v hv => ?_
  obtain ⟨rv, rfl, Rv⟩ := R.ofOne hv
  refine sim_L I Rv fun xs a us _ e1 l1 r1 _ => Sim.onP fun hz => ?_
  subst e1
  have hl := r1.length
  refine sim_val I fun Q E hQ => call_len_list l1 (by rw [List.size_toArray, hl]; omega) ?_
  rw [List.size_toArray, hl]
  exact hQ _ _ (RV.int _ _)
 | range1 =>
  refine Sim.onO fun v hv => Sim.onO fun b hb => ?_
  obtain ⟨rv, rfl, Rv⟩ := R.ofOne hv
  obtain ⟨t, rfl⟩ := Rv.ofInt hb
  exact sim_rng I fun Q E hQ => call_range_1 (hQ _)
 | range3 =>
  refine Sim.onO fun v hv => Sim.onO fun a ha => Sim.onO fun b hb => Sim.onO fun c hc => Sim.onP fun hz => ?_
  obtain ⟨r1, r2, r3, rfl, R1, R2, R3⟩ := R.ofThree hv
  obtain ⟨t, rfl⟩ := R1.ofInt ha
  obtain ⟨u, rfl⟩ := R2.ofInt hb
  obtain ⟨x, rfl⟩ := R3.ofInt hc
  exact sim_rng I fun Q E hQ => call_range_3 (by omega) (hQ s.toks) (.inl (PyProof.noPylong_small (by omega)))
 | abs =>
  refine Sim.onO fun v hv => Sim.onO fun b hb => ?_
  obtain ⟨rv, rfl, Rv⟩ := R.ofOne hv
  obtain ⟨t, rfl⟩ := Rv.ofInt hb
  refine sim_val I fun Q E hQ => call_abs_int fun u tk => hQ _ tk ?_
  rw [show (if b < 0 then -b else b) = (b.natAbs : Int) from by split <;> omega]; exact RV.int _ _
 | sum =>
  refine Sim.onO fun v hv => ?_
  obtain ⟨rv, rfl, Rv⟩ := R.ofOne hv
  refine sim_L I Rv fun xs a us _ e1 l1 r1 _ => Sim.onO fun l el => Sim.onP fun hq => ?_
  subst e1
  have hi := ints_are r1 el
  obtain ⟨zs, ez⟩ := hi.allInts.items
  refine Sim.rule fun Q E hQ => ?_
  rw [ez] at l1
  refine sum_intListG (hh hq) l1 fun h' tk t' hk => ?_
  have e1 : preSum (numAt zs) zs.size = l.sum := by
   have := hi.numsOf
   rw [show us = (intItems zs).toList from by rw [← ez], nums_intItems] at this
   rw [preSum_eq, List.take_of_length_le (by simp), this]
  rw [e1]
  exact hQ _ W h' tk (I.kept hk) (.of_kept hk) (RV.int _ _)
 | sortL =>
  refine Sim.onO fun v hv => ?_
  obtain ⟨rv, rfl, Rv⟩ := R.ofOne hv
  refine sim_L I Rv fun xs a us _ e1 l1 r1 _ => Sim.onO fun l el => Sim.onP fun hz => ?_
  subst e1
  have hl := r1.length
  refine Sim.rule fun Q E hQ => sorted_ints l1 (ints_are r1 el) (by omega) fun out ns' a1 a2 a3 => ?_
  cases int_sorted a2 a3
  obtain ⟨k, hk⟩ := sortedAll_at s.heap us out
  obtain ⟨W', I', S', R'⟩ := newList_at (a := s.heap.objs.size + 1) (vs := out.toList) I (ints_real a1) (fun b o => sortedAll_old) (Heap.get?_none_of_le (Nat.le_succ _)) (k := k) (by rw [Array.toArray_toList]; exact hk)
  exact hQ _ W' _ s.toks I' S' R'
 | sortDI =>
  refine Sim.onO fun v hv => Sim.onP fun hq => Sim.onO fun p hp => Sim.onO fun l hl => Sim.onP fun hz => ?_
  obtain ⟨rv, rfl, Rv⟩ := R.ofOne hv
  obtain ⟨hi, rfl, D, hsm⟩ := dict_realR sm I Rv hp
  obtain ⟨hk, hm⟩ := keys_int (w := w) (W := W) (n := st.n) hl
  obtain ⟨kvs, hd, hv⟩ := D.of hk
  have e := hm hv
  exact sorted hq hsm hd (by rw [hv.length]; exact hz) fun vs hn hj => .inl ⟨l, ints_at (prog := prog) (w := w) (by rw [hn, ← e, List.length_map]) (by rw [← e]; exact hj), rfl⟩
 | sortDS =>
  refine Sim.onO fun v hv => Sim.onP fun hq => Sim.onO fun p hp => Sim.onO fun l hl => Sim.onP fun hz => ?_
  obtain ⟨rv, rfl, Rv⟩ := R.ofOne hv
  obtain ⟨hi, rfl, D, hsm⟩ := dict_realR sm I Rv hp
  obtain ⟨hk, hm⟩ := keys_str (w := w) (W := W) (n := st.n) hl
  obtain ⟨kvs, hd, hv⟩ := D.of hk
  have e := hm hv
  exact sorted hq hsm hd (by rw [hv.length]; exact hz) fun vs hn hj => .inr ⟨l, strs_at (prog := prog) (w := w) (by rw [hn, ← e, List.length_map]) (by rw [← e]; exact hj), rfl⟩
 | str =>
  refine Sim.onO fun v hv => Sim.onO fun b hb => Sim.onP fun hz => ?_
  obtain ⟨rv, rfl, Rv⟩ := R.ofOne hv
  obtain ⟨t, rfl⟩ := Rv.ofInt hb
  refine sim_val I fun Q E hQ => PySem.P.str_of_int ?_ (hQ _ _ (RV.str _ _))
  by_cases h0 : b.natAbs = 0
  ·rw [h0]; decide
  ·exact Nat.lt_trans ((Nat.log2_lt h0).mpr hz) (by omega)
 | dict =>
  refine Sim.onO fun v hv => Sim.onP fun hq => ?_
  obtain ⟨rv, rfl, Rv⟩ := R.ofOne hv
  refine sim_L I Rv fun xs a us _ e1 l1 r1 hdn => Sim.onO fun kvs ep => Sim.onP fun hz => ?_
  subst e1
  obtain ⟨rk, q1, q2, q3, q4⟩ := pairs_real (h := s.heap) I.sub r1 ep
  have hlen : rk.length = kvs.length := by have := congrArg List.length q1; rwa [List.length_map, List.length_map] at this
  refine Sim.rule fun Q E hQ => dict_pairs (hh hq) (by rw [q1]; exact hz.2) q2 (by omega) l1 (fun o q => (hdn o q).1) q4 fun h' tk hd hk => ?_
  obtain ⟨W', I', S', R'⟩ := newDict_at (a := s.heap.objs.size) I hk (Heap.get?_none_of_le (Nat.le_refl _)) (.s rk hd (q3.mono W.le_slot (Nat.le_succ _)))
  exact hQ _ W' h' tk I' S' R'
 | tuple =>
  refine Sim.onO fun v hv => ?_
  obtain ⟨rv, rfl, Rv⟩ := R.ofOne hv
  refine sim_L I Rv fun xs a us _ e1 l1 r1 _ => Sim.onP fun hz => ?_
  subst e1
  refine Sim.rule fun Q E hQ => call_tuple_list l1 (fun h' hk => ?_) (by rw [List.size_toArray, r1.length]; exact line_ten hz)
  have hn : s.heap.get? h'.objs.size = none := by
   cases q : s.heap.get? h'.objs.size with
   | none => rfl
   | some o => exact absurd (Heap.lt_size (hk _ _ q)) (Nat.lt_irrefl _)
  obtain ⟨W', I', S', R'⟩ := newTup_at (k := 0) I r1 (h' := h'.push { cls := .type "tuple", data := .seq us.toArray }) (a := h'.objs.size) (fun b o e => Heap.get?_push_of_some _ (hk _ _ e)) hn (Heap.get?_push_size _ rfl)
  exact hQ _ W' _ s.toks I' S' R'
 | bytesB =>
  refine Sim.onO fun v hv => Sim.onO fun l hl => ?_
  obtain ⟨rv, rfl, Rv⟩ := R.ofOne hv
  obtain ⟨t, rfl, hb⟩ := Rv.ofBytes hl
  exact sim_val I fun Q E hQ => bytes_same (hQ _ s.toks (RV.bytes l t hb))
 | bytesL =>
  refine Sim.onO fun v hv => Sim.onP fun hq => ?_
  obtain ⟨rv, rfl, Rv⟩ := R.ofOne hv
  refine sim_L I Rv fun xs a us _ e1 l1 r1 _ => Sim.onO fun l el => Sim.onP fun hz => ?_
  subst e1
  have hr : ∀ n ∈ l, 0 ≤ n ∧ n < 256 := fun n hn => odt (List.all_eq_true.mp hz.1 n hn)
  have hi := ints_are r1 el
  refine Sim.rule fun Q E hQ => call_bytes_ints l1 hi hr (by rw [hi.length]; exact line_ten hz.2) (hh hq) fun h' t k hk => ?_
  rw [show byteArr l = bytesArr (l.map Int.toNat) from by unfold bytesArr byteArr; simp [Function.comp_def]]
  exact hQ _ W h' k (I.kept hk) (.of_kept hk) (RV.bytes _ _ fun b hb => by
   obtain ⟨n, hn, rfl⟩ := List.mem_map.mp hb
   have := hr n hn
   omega)
 | ord =>
  refine Sim.onO fun v hv => Sim.onO fun x hx => Sim.onO fun c hc => ?_
  obtain ⟨rv, rfl, Rv⟩ := R.ofOne hv
  obtain ⟨t, rfl⟩ := Rv.ofStr hx
  have hc : x.cps.toList = [c] := by
   generalize x.cps.toList = l at hc
   match l with
   | [_] => (obtain rfl := inj1 hc); rfl
   | [] => exact noC hc
   | _ :: _ :: _ => exact noC hc
  have : x = ⟨#[c]⟩ := str_ext hc
  subst this
  exact sim_val I fun Q E hQ => PySem.P.ord_of_char (hQ _ _ (RV.int _ _))
 | chr =>
  refine Sim.onO fun v hv => Sim.onO fun b hb => Sim.onP fun hz => ?_
  obtain ⟨rv, rfl, Rv⟩ := R.ofOne hv
  obtain ⟨t, rfl⟩ := Rv.ofInt hb
  exact sim_val I fun Q E hQ => chr_of_range hz.1 (by omega) (hQ _ _ (RV.str _ _))
 | listT =>
  refine Sim.onO fun v hv => Sim.onO fun xs hx => Sim.onP fun hz => ?_
  obtain ⟨rv, rfl, Rv⟩ := R.ofOne hv
  obtain ⟨a, o, us, k, rfl, ho, ⟨T, hT, hc⟩, hd, h2⟩ : ∃ a o us k, rv = .ref a ∧ s.heap.get? a = some o ∧ (∃ T, (T = "list" ∨ T = "tuple") ∧ o.cls = .type T) ∧ o.data = .seq (us : List Value).toArray k ∧ RVs w.params W st.n xs us := by
   cases ht : v.tup? with
   | some ys =>
    rw [ht] at hx
    obtain rfl := inj1 hx
    obtain ⟨a, us, k, rfl, h1, h2⟩ := Rv.ofTup ht
    exact ⟨a, _, us, k, rfl, I.sub _ _ h1, ⟨_, .inr rfl, rfl⟩, rfl, h2⟩
   | none =>
    rw [ht] at hx
    obtain ⟨a, us, rfl, ⟨o, ho, hc, k, hd⟩, r1, _⟩ := listOf_real I Rv hx
    exact ⟨a, o, us, k, rfl, ho, ⟨_, .inl rfl, hc⟩, hd, r1⟩
  refine Sim.rule fun Q E hQ => call_list_seq a hT ho hc hd (fun h' c' hk hn => ?_) (by rw [List.size_toArray, h2.length]; exact line_ten hz)
  obtain ⟨W', I', S', R'⟩ := newList_at I h2 hk (Heap.get?_none_of_le (Nat.le_refl _)) hn
  exact hQ _ W' h' s.toks I' S' R'
end
theorem subAt_one {s : Str} {c i : Nat} (h : i < s.cps.size) : Builtin.Str.subAt s ⟨#[c]⟩ i = decide (s.cps[i] = c) := by
 unfold Builtin.Str.subAt
 have e : s.cps.extract i (i + 1) = #[s.cps[i]] := by
  apply Array.ext
  ·simp; omega
  ·intro j h1 h2
   have : j = 0 := by simp at h2; omega
   subst this
   simp
 show (s.cps.extract i (i + 1) == #[c]) = _
 rw [e]
 simp [Bool.beq_eq_decide_eq]
theorem occ_step (s : Str) (c : Nat) : ∀ (m : Nat) (fd : Array Nat) (fr k : Nat), k + m = s.cps.size + 1 → fr ≤ k → fd.size ≤ k →
  (Id.run (forIn (List.range' k m) ((fd, fr) : Array Nat × Nat) fun i r =>
   if (decide (r.fst.size < s.cps.size + 1) && decide (r.snd ≤ i) && decide (i + 1 ≤ s.cps.size) && Builtin.Str.subAt s ⟨#[c]⟩ i) = true then pure (ForInStep.yield (r.fst.push i, i + 1)) else pure (ForInStep.yield (r.fst, r.snd)))).fst.size = fd.size + (s.cps.toList.drop k).count c := by
 intro m
 induction m with
 | zero =>
  intro fd fr k hk hf hs
  have : s.cps.toList.drop k = [] := by simp; omega
  simp [this]
 | succ m ih =>
  intro fd fr k hk hf hs
  rw [List.range'_succ, List.forIn_cons]
  by_cases hlt : k < s.cps.size
  ·have hd : s.cps.toList.drop k = s.cps[k] :: s.cps.toList.drop (k + 1) := by simp [List.drop_eq_getElem_cons, hlt]
   rw [hd, List.count_cons]
   have e1 : (decide (fd.size < s.cps.size + 1) && decide (fr ≤ k) && decide (k + 1 ≤ s.cps.size) && Builtin.Str.subAt s ⟨#[c]⟩ k) = decide (s.cps[k] = c) := by
    rw [subAt_one hlt]
    have h1 : fd.size < s.cps.size + 1 := Nat.lt_succ_of_le (Nat.le_trans hs (Nat.le_of_lt hlt))
    have h2 : k + 1 ≤ s.cps.size := hlt
    simp [h1, hf, h2]
   simp only [e1]
   by_cases hc : s.cps[k] = c
   ·simp only [hc, decide_true, if_true, pure_bind]
    rw [ih (fd.push k) (k + 1) (k + 1) ((Nat.succ_add_eq_add_succ ..).trans hk) (Nat.le_refl _) (by rw [Array.size_push]; exact Nat.succ_le_succ hs)]
    simp; omega
   ·simp only [hc, decide_false, pure_bind]
    rw [if_neg (by simp)]
    simp only [pure_bind]
    rw [ih fd fr (k + 1) ((Nat.succ_add_eq_add_succ ..).trans hk) (Nat.le_succ_of_le hf) (Nat.le_succ_of_le hs)]
    simp [hc]
  ·have hd : s.cps.toList.drop k = [] := List.drop_eq_nil_of_le (Nat.not_lt.mp hlt)
   have hd2 : s.cps.toList.drop (k + 1) = [] := List.drop_eq_nil_of_le (Nat.le_succ_of_le (Nat.not_lt.mp hlt))
   have h2 : ¬ k + 1 ≤ s.cps.size := hlt
   simp only [h2, decide_false, Bool.and_false, Bool.false_and]
   rw [if_neg (by simp)]
   simp only [pure_bind]
   rw [ih fd fr (k + 1) ((Nat.succ_add_eq_add_succ ..).trans hk) (Nat.le_succ_of_le hf) (Nat.le_succ_of_le hs), hd, hd2]
theorem occ_count (s : Str) (c : Nat) : (Builtin.Str.occurrences s ⟨#[c]⟩ 0 s.length (s.length + 1)).length = s.cps.toList.count c := by
 have := occ_step s c (s.cps.size + 1) #[] 0 0 (Nat.zero_add _) (Nat.le_refl _) (by simp)
 simp only [List.drop_zero, List.size_toArray, List.length_nil, Nat.zero_add] at this
 rw [← this]
 unfold Builtin.Str.occurrences
 simp only [Std.Legacy.Range.forIn_eq_forIn_range', Std.Legacy.Range.size]
 have e : (s.length + 1 - 0 + 1 - 1) / 1 = s.cps.size + 1 := Nat.div_one _
 rw [e]
 rfl
section
variable {prog : Program} {w : World} {A : Around} {E : Value → Shared → Prop} {s : Shared}
theorem tup_loop (xs : Array Value) (x : Value) (e : Value → Bool) (j : Nat) {Q : Option PySem.Fin × Unit → Shared → Prop} (hj : j < xs.size) (hhit : e xs[j] = true) (hno : ∀ m (hm : m < xs.size), m < j → e xs[m] = false)
  (he : ∀ y, y ∈ xs → EqAt A s y x (e y)) (hQ : ∀ tk, Q (some (.done (.ret (.int j tk))), ()) { s with toks := s.toks + 1 }) :
  ∀ (m i : Nat), i + m = xs.size → i ≤ j →
  wpAny (model prog w) A (forIn (List.range' i m) ((none : Option PySem.Fin), ()) fun (i : Nat) __s => match xs[i]? with
   | some y => do
    let __do_lift ← eqBool y x
    if __do_lift = true then do
     let __do_lift ← retInt (i : Int)
     pure (ForInStep.done (some __do_lift, ()))
    else pure (ForInStep.yield (none, ()))
   | _ => pure (ForInStep.yield (none, ()))) Q E s := by
 intro m
 induction m with
 | zero => intro i h1 h2; exact absurd (Nat.lt_of_lt_of_eq (Nat.lt_of_le_of_lt h2 hj) h1.symm) (Nat.lt_irrefl i)
 | succ m ih =>
  intro i h1 h2
  rw [List.range'_succ, List.forIn_cons]
  have hlt : i < xs.size := Nat.lt_of_le_of_lt h2 hj
  have hx : xs[i]? = some xs[i] := by simp
  rw [hx]
  refine wpAny_bind (wpAny_bind (he _ (Array.getElem_mem hlt) prog w _ _ ?_))
  by_cases hij : i = j
  ·subst hij
   rw [hhit]
   wp_walk
   exact hQ _
  ·rw [hno i hlt (Nat.lt_of_le_of_ne h2 hij)]
   refine wpAny_pure ?_
   exact ih (i + 1) ((Nat.succ_add_eq_add_succ ..).trans h1) (Nat.lt_of_le_of_ne h2 hij)
theorem tuple_index {l : Addr} {xs : Array Value} {x : Value} (e : Value → Bool) (j : Nat) {Q : Value → Shared → Prop} (hl : s.heap.IsTuple l xs) (hj : j < xs.size) (hhit : e xs[j] = true) (hno : ∀ m (hm : m < xs.size), m < j → e xs[m] = false)
  (he : ∀ y, y ∈ xs → EqAt A.in1 s y x (e y)) (hQ : ∀ tk, Q (.int j tk) { s with toks := s.toks + 1 }) : wpAny (model prog w) A (call (.builtin "tuple.index") [.ref l, x]) Q E s := by
 refine wpAny_call_entry F.slot_tuple_index hl.typeIs F.entry_tuple_index ?_ (F.args_tuple_index_2 _ _)
 unfold Builtin.«tuple.index»
 simp only [Std.Legacy.Range.forIn_eq_forIn_range', Std.Legacy.Range.size]
 refine wpAny_bind (m := PySem.selfAndSome "tuple.index" "index" 1 3 _) (wpAny_pure (a := (Value.ref l, [x])) ?_)
 obtain ⟨o, ho, _, n, hd⟩ := hl
 refine wpAny_bind (wpAny_tupleItemsOf ho hd ?_)
 dsimp only
 refine wpAny_bind (wpAny_pure (a := 0) (wpAny_bind (wpAny_pure (a := xs.size) (wpAny_bind ?_))))
 have e1 : (min xs.size xs.size - 0 + 1 - 1) / 1 = xs.size := (Nat.div_one _).trans (Nat.min_self _)
 rw [e1]
 refine tup_loop xs x e j hj hhit hno he (fun tk => ?_) xs.size 0 (Nat.zero_add _) (Nat.zero_le _)
 exact wpAny_pure ⟨_, rfl, hQ tk⟩
theorem bytes_pre {x y : List Nat} (hx : ∀ b ∈ x, b < 256) (hy : ∀ b ∈ y, b < 256) :
  (if ((bytesArr x).size : Int) - 0 < (bytesArr y).size then false else (bytesArr x).extract 0 (0 + (bytesArr y).size) == bytesArr y) = y.isPrefixOf x := by
 have key : ∀ z : List Nat, (∀ b ∈ z, b < 256) → (z.map UInt8.ofNat).map UInt8.toNat = z := by
  intro z hz
  rw [List.map_map]
  conv => rhs; rw [← List.map_id z]
  refine List.map_congr_left fun b hb => ?_
  have := hz b hb
  simp; omega
 simp only [bytesArr_size, Nat.zero_add]
 rw [Bool.eq_iff_iff, List.isPrefixOf_iff_prefix]
 by_cases h : x.length < y.length
 ·rw [if_pos (by omega)]
  constructor
  ·intro q; exact nfC q
  ·intro q; have := q.length_le; omega
 ·rw [if_neg (by omega), beq_iff_eq]
  have e : (bytesArr x).extract 0 y.length = ((x.take y.length).map UInt8.ofNat).toArray := by
   unfold bytesArr
   simp
  rw [e]
  unfold bytesArr
  constructor
  ·intro q
   have q := congrArg (fun a => a.toList.map UInt8.toNat) q
   simp only [List.toList_toArray] at q
   rw [key _ (fun b hb => hx b (List.mem_of_mem_take hb)), key _ hy] at q
   rw [← q]; exact List.take_prefix _ _
  ·intro q
   rw [List.prefix_iff_eq_take.mp q]
   simp
theorem bytes_starts {x y : List Nat} (hx : ∀ b ∈ x, b < 256) (hy : ∀ b ∈ y, b < 256) {t u : Tok} {Q : Value → Shared → Prop} (h : Q (.bool (y.isPrefixOf x)) s) : wpAny (model prog w) A (call (.builtin "bytes.startswith") [.bytes (bytesArr x) t, .bytes (bytesArr y) u]) Q E s := by
 have hT : s.TypeIs (.bytes (bytesArr x) t) "bytes" := PySem.W.typeIs_bytes _ _ _
 refine wpAny_call_entry FB.slot_bytes_startswith hT FB.entry_bytes_startswith ?_ (FB.args_bytes_startswith_2 _ _)
 unfold Builtin.«bytes.startswith» Builtin.Bytes.tailMatchM
 wp_walk
 refine wpAny_of_eq (a := false) (by rw [isSubtype_type]; kernel_rfl) ?_
 refine bm_if_false rfl ?_
 refine wpAny_bind (wpAny_of_eq (a := some (bytesArr y)) KBy.buffer_eq ?_)
 refine wpAny_pure ⟨_, rfl, ?_⟩
 have e : Builtin.Bytes.window (bytesArr x).size none none = (0, ((bytesArr x).size : Int)) := by
  unfold Builtin.Bytes.window; simp; omega
 rw [e]
 have := bytes_pre hx hy
 simp only [Int.sub_zero, Bool.false_eq_true, if_false] at this ⊢
 simp only [Int.toNat_zero] at this ⊢
 rw [this]; exact h
end
noncomputable def bName : MK → Str | .get1 => "get" | .get2 => "get" | .append => "append" | .pop => "pop" | .index => "index" | .join => "join" | .count => "count" | .starts => "startswith"
noncomputable def methId : MK → String | .get1 => "dict.get" | .get2 => "dict.get" | .append => "list.append" | .pop => "list.pop" | .index => "tuple.index" | .join => "str.join" | .count => "str.count" | .starts => "bytes.startswith"
theorem glued_nil (l : List Str) : Builtin.Str.glued "" l = ⟨(l.flatMap fun s => s.cps.toList).toArray⟩ := by
 have key : ∀ (r : List Str) (acc : Array Nat), r.foldl (fun acc p => acc ++ ("" : Str).cps ++ p.cps) acc = acc ++ (r.flatMap fun s => s.cps.toList).toArray := by
  intro r
  induction r with
  | nil => intro acc; simp
  | cons p r ih =>
   intro acc
   rw [List.foldl_cons, ih]
   have e : (("" : Str).cps) = #[] := by decide +kernel
   rw [e]
   apply Array.ext'
   simp
 unfold Builtin.Str.glued
 cases l with
 | nil => decide +kernel
 | cons p r =>
  simp only [List.drop_succ_cons, List.drop_zero, List.headD_cons]
  rw [key]
  congr 1
  apply Array.ext'
  simp
theorem sum_short (sep : Str) (hs : sep.length = 0) (l : List Str) : l.toArray.foldl (fun a x => a + x.length + sep.length) 0 = (l.map (·.length)).sum := by
 have key : ∀ (l : List Str) (n : Nat), l.foldl (fun a x => a + x.length + sep.length) n = n + (l.map (·.length)).sum := by
  intro l
  induction l with
  | nil => intro n; simp
  | cons p r ih => intro n; rw [List.foldl_cons, ih]; simp; omega
 rw [List.foldl_toArray, key, Nat.zero_add]
theorem strs_vals : ∀ {vs : List Value} {l : List Str}, StrsAre vs l → ∃ r : List (Str × Tok), vs = strValues r ∧ l = r.map (·.1)
 | _, _, .nil => ⟨[], rfl, rfl⟩
 | _, _, .cons x t r => let ⟨r', e1, e2⟩ := strs_vals r; ⟨(x, t) :: r', by rw [e1]; rfl, by rw [e2]; rfl⟩
section
variable {prog : Program} {w : World} {b₀ : Heap} {W : Wd} {st : St} {s : Shared} {A : Around}
theorem ints_find {n : Nat} (k : Int) {xs : List V} : ∀ {vs : List Value} {l : List Int} {j : Nat}, RVs w.params W n xs vs → intsOf xs = some l → l.findIdx? (fun i => decide (i = k)) = some j →
  ∃ hj : j < vs.length, (match vs[j] with | .int i _ => i == k | _ => false) = true ∧ ∀ m (hm : m < vs.length), m < j → (match vs[m] with | .int i _ => i == k | _ => false) = false := by
 induction xs with
 | nil => intro vs l j R e f; (obtain rfl := inj1 e); (exact noC f)
 | cons x xs ih =>
  intro vs l j R e f
  obtain ⟨r, rs, rfl, p, R⟩ := R
  obtain ⟨i, hi, e⟩ := bndS e
  obtain ⟨l', e', rfl⟩ := mapS e
  obtain ⟨t, rfl⟩ := p.ofInt hi
  rw [List.findIdx?_cons] at f
  by_cases q : i = k
  ·rw [if_pos (decide_eq_true q)] at f
   obtain rfl := inj1 f
   exact ⟨Nat.zero_lt_succ _, beq_iff_eq.mpr q, fun m hm h => absurd h (Nat.not_lt_zero _)⟩
  ·rw [if_neg (fun z => q (odt z))] at f
   obtain ⟨j', f', rfl⟩ := mapS f
   obtain ⟨g1, g2, g3⟩ := ih R e' f'
   refine ⟨Nat.succ_lt_succ g1, g2, fun m hm h => ?_⟩
   cases m with
   | zero => exact beq_eq_false_iff_ne.mpr q
   | succ m => exact g3 m (Nat.lt_of_succ_lt_succ hm) (Nat.lt_of_succ_lt_succ h)
theorem sim_meth {o : V} {ro : Value} {vs : List V} {rvs : List Value} {m : MK} (sm : ∃ o, b₀.get? sysModules = some o) (hu : A.units + 100 < cLine) (I : Inv prog w b₀ W st s.heap) (Ro : RV w.params W st.n o ro) (R : RVs w.params W st.n vs rvs) :
  Sim prog w b₀ A (call (.builtin (methId m)) (ro :: rvs)) W st s (RlV w) (methV o m vs st) := by
 cases m with
 | get1 =>
  refine Sim.onO fun k hk => ?_
  obtain ⟨rk, rfl, Rk⟩ := R.ofOne hk
  show Sim prog w b₀ A _ W st s (RlV w) (onK o k (fun es dk => M.pure ((dGet es dk).getD .nil)) st)
  refine sim_K sm hu I Ro Rk fun es dk a fo e1 _ h1 h2 => ?_
  subst e1
  exact sim_val I fun Q E hQ => h2.get1 Q E fun tk => hQ _ _ (h1.getD rfl)
 | get2 =>
  refine Sim.onO fun p hp => ?_
  obtain ⟨rk, rd, rfl, Rk, Rd⟩ := R.ofTwo hp
  show Sim prog w b₀ A _ W st s (RlV w) (onK o p.1 (fun es dk => M.pure ((dGet es dk).getD p.2)) st)
  refine sim_K sm hu I Ro Rk fun es dk a fo e1 _ h1 h2 => ?_
  subst e1
  exact sim_val I fun Q E hQ => h2.get2 rd Q E fun tk => hQ _ _ (h1.getD Rd)
 | append =>
  refine Sim.onO fun v hv => Sim.onO fun p hp => Sim.onP fun hz => ?_
  obtain ⟨rv, rfl, Rv⟩ := R.ofOne hv
  obtain ⟨rfl, hi, hf⟩ := slotL_real Ro hp
  obtain ⟨us, n, e1, Rs⟩ := slot_list I hi hf
  have hl : s.heap.IsList (W.ρ p.1) us.toArray := ⟨_, e1, rfl, _, rfl⟩
  refine Sim.rule fun Q E hQ => call_meets F.slot_list_append hl.typeIs F.entry_list_append (F.args_list_append_2 _ _) (list_append _ _ n rv (by rw [List.size_toArray, Rs.length]; exact line_ten hz)) ⟨e1, ?_⟩
  have key := Heap.get?_update_self (Obj.mapSeq fun xs => xs.push rv) e1 rfl
  unfold Obj.mapSeq at key
  dsimp only at key
  rw [List.push_toArray] at key
  obtain ⟨I', S'⟩ := list_turned (A := A) I hi hf (Heap.SameBut.update ..) key (RVs.append (RVs.single Rv) Rs)
  exact hQ _ W _ s.toks I' S' rfl
 | pop =>
  refine Sim.onO fun v hv => Sim.onO fun i hi => Sim.onP fun h0 => Sim.onO fun p hp => Sim.onP fun hz => Sim.onO fun x hx => ?_
  obtain ⟨rv, rfl, Rv⟩ := R.ofOne hv
  obtain ⟨t, rfl⟩ := Rv.ofInt hi
  subst h0
  obtain ⟨rfl, hi, hf⟩ := slotL_real Ro hp
  obtain ⟨us, n, e1, Rs⟩ := slot_list I hi hf
  have hl : s.heap.IsList (W.ρ p.1) us.toArray := ⟨_, e1, rfl, _, rfl⟩
  have hlen := Rs.length
  obtain ⟨j, xs⟩ := p
  cases xs with
  | nil => exact noC hx
  | cons x' xs =>
   obtain rfl := inj1 hx
   obtain ⟨y, us, rfl, Rx, Rs⟩ := Rs
   refine Sim.rule fun Q E hQ => call_meets F.slot_list_pop hl.typeIs F.entry_list_pop (F.args_list_pop_2 _ _) (MeetsSeq.list_pop_at _ _ n 0 t 0 y (by decide +kernel) (by unfold seqIndex?; simp) (by simp) (by rw [List.size_toArray, hlen, sizeLine_eq]; exact Nat.le_trans hz (by decide))) ⟨e1, ?_⟩
   have key := Heap.get?_update_self (Obj.mapSeq fun xs => xs.eraseIdxIfInBounds 0) e1 rfl
   unfold Obj.mapSeq at key
   dsimp only at key
   rw [show ((y :: us).toArray.eraseIdxIfInBounds 0) = us.toArray from by simp [Array.eraseIdxIfInBounds]] at key
   obtain ⟨I', S'⟩ := list_turned (A := A) I hi hf (Heap.SameBut.update ..) key Rs
   exact hQ _ W _ s.toks I' S' Rx
 | index =>
  refine Sim.onO fun v hv => Sim.onO fun k hk => Sim.onO fun xs hx => Sim.onO fun l hl => Sim.onO fun j hj => ?_
  obtain ⟨rv, rfl, Rv⟩ := R.ofOne hv
  obtain ⟨t, rfl⟩ := Rv.ofInt hk
  obtain ⟨a, us, n, rfl, h1, h2⟩ := Ro.ofTup hx
  obtain ⟨g1, g2, g3⟩ := ints_find k h2 hl hj
  obtain ⟨hf, _⟩ := int_eqAt (A := A.in1) (s := s) k t h2 hl
  exact sim_val I fun Q E hQ => tuple_index (fun v => match v with | .int i _ => i == k | _ => false) j ⟨_, I.sub _ _ h1, rfl, _, rfl⟩ (by rw [List.size_toArray]; exact g1) (by rw [List.getElem_toArray]; exact g2)
   (fun m hm q => by rw [List.getElem_toArray]; exact g3 m _ q) (fun y hy => hf y (by rwa [List.mem_toArray] at hy)) (fun tk => hQ _ _ (RV.int _ _))
 | join =>
  refine Sim.onO fun v hv => Sim.onO fun x hx => Sim.onP fun hnil => ?_
  obtain ⟨rv, rfl, Rv⟩ := R.ofOne hv
  obtain ⟨t, rfl⟩ := Ro.ofStr hx
  refine sim_L I Rv fun xs a us _ e1 l1 r1 _ => Sim.onO fun l e2 => Sim.onP fun hz => ?_
  subst e1
  obtain ⟨r, e3, e4⟩ := strs_vals (strs_are r1 e2)
  have hx0 : x = "" := str_ext (by rw [hnil]; rfl)
  subst hx0
  refine sim_val I fun Q E hQ => call_meets F.slot_str_join (typeIs_str _ _ _) F.entry_str_join (F.args_str_join_2 _ _) (meets_str_join_list "" t a r ?_) ⟨by rw [← e3]; exact l1, ?_⟩
  ·rw [← e4, sum_short "" rfl]
   unfold Builtin.Str.tooLong
   rw [decide_eq_false_iff_not, sizeLine_eq]; omega
  ·have g : ∀ l : List (Str × Tok), (Builtin.Str.glued "" (l.map (·.1))).length = ((l.map (·.1)).map (·.length)).sum := fun l => by
    rw [size_glued, show (Str.ofString "").length = 0 from rfl, Nat.mul_zero, Nat.add_zero]
   rw [e4, ← glued_nil] at hQ
   have hz' : (Builtin.Str.glued "" (r.map (·.1))).length ≤ sizeLine := by rw [g, ← e4, sizeLine_eq]; omega
   match r, hz', hQ with
   | [], hz', hQ => exact ⟨hz', hQ _ _ (RV.str _ _)⟩
   | [p], hz', hQ => exact hQ _ _ (RV.str _ _)
   | p :: q :: r, hz', hQ => exact ⟨hz', hQ _ _ (RV.str _ _)⟩
 | count =>
  refine Sim.onO fun v hv => Sim.onO fun y hy => Sim.onO fun x hx => Sim.onO fun c hc => ?_
  obtain ⟨rv, rfl, Rv⟩ := R.ofOne hv
  obtain ⟨u, rfl⟩ := Rv.ofStr hy
  obtain ⟨t, rfl⟩ := Ro.ofStr hx
  have hc : y.cps.toList = [c] := by
   generalize y.cps.toList = l at hc
   match l with
   | [_] => (obtain rfl := inj1 hc); rfl
   | [] => exact noC hc
   | _ :: _ :: _ => exact noC hc
  have : y = ⟨#[c]⟩ := str_ext hc
  subst this
  refine sim_val I fun Q E hQ => call_gives F.slot_str_count (typeIs_str _ _ _) F.entry_str_count (F.args_str_count_2 _ _) (gives_str_count x _ t u) ?_
  rw [occ_count]
  exact hQ _ _ (RV.int _ _)
 | starts =>
  refine Sim.onO fun v hv => Sim.onO fun p hp => Sim.onO fun l hl => ?_
  obtain ⟨rv, rfl, Rv⟩ := R.ofOne hv
  obtain ⟨u, rfl, hp⟩ := Rv.ofBytes hp
  obtain ⟨t, rfl, hl⟩ := Ro.ofBytes hl
  exact sim_val I fun Q E hQ => bytes_starts hl hp (hQ _ _ rfl)
end
abbrev Sc := List (Str × NameKind)
noncomputable def isGlob (sc : Sc) (x : Str) : Bool := sc.lookup x == some .globalImplicit && !(x == "__debug__")
noncomputable def isLoc (sc : Sc) (inC : Bool) (i : Nat) (x : Str) : Bool := (x == vname i && decide (i < vCount)) && ((sc.lookup x == some .local || (!inC && sc.lookup x == some .cell)) && !(x == "__debug__"))
noncomputable def isUp (sc : Sc) (inC : Bool) (i : Nat) (x : Str) : Bool := (x == vname i && decide (i < vCount)) && ((inC && sc.lookup x == some .free) && !(x == "__debug__"))
noncomputable def notSet (e : Expr) : Bool := e.ctorIdx != 7
noncomputable def sameC (v : V) : Const → Bool
 | .none => v.isNil
 | .bool b => decide (v.bool? = some b)
 | .int b => decide (v.int? = some b)
 | .str b => decide (v.str? = some b)
 | .bytes b => decide (v.bytes? = some (b.map UInt8.toNat))
 | _ => false
noncomputable def gvalB (x : Str) (v : V) : Bool := (gints.any fun p => decide (p.1 = x) && decide (v.int? = some p.2)) || ((decide (x = "MARK") && decide (v.bytes? = some [254, 255])) || (decide (x = "_law_titles") && decide (v.tup?.bind strsOf = some titles)))
theorem V.ofNil {v : V} (h : v.isNil = true) : v = .nil := by cases v <;> first | rfl | cases h
theorem V.ofBool {v : V} {x : Bool} (h : v.bool? = some x) : v = .bool x := by cases v <;> cases h; rfl
theorem V.ofInt {v : V} {x : Int} (h : v.int? = some x) : v = .int x := by cases v <;> cases h; rfl
theorem V.ofStr {v : V} {x : Str} (h : v.str? = some x) : v = .str x := by cases v <;> cases h; rfl
theorem V.ofBytes {v : V} {x : List Nat} (h : v.bytes? = some x) : v = .bytes x := by cases v <;> cases h; rfl
theorem V.ofTup {v : V} {x : List V} (h : v.tup? = some x) : v = .tup x := by cases v <;> cases h; rfl
theorem isIntV_of {i : Int} {v : Value} (h : isIntV i v = true) : ∃ k, v = .int i k := by cases v <;> first | (cases odt h; exact ⟨_, rfl⟩) | cases h
theorem isBytV_of {l : List Nat} {v : Value} (h : isBytV l v = true) : ∃ k, v = .bytes (bytesArr l) k := by cases v <;> first | (cases odt h; exact ⟨_, rfl⟩) | cases h
theorem one_of {α : Type} {l : List α} {a : α} (h : one l = some a) : l = [a] := by
 match l with
 | [_] => cases h; rfl
 | [] => cases h
 | _ :: _ :: _ => cases h
theorem two_of {α : Type} {l : List α} {p : α × α} (h : two l = some p) : l = [p.1, p.2] := by
 match l with
 | [_, _] => cases h; rfl
 | [] => cases h
 | [_] => cases h
 | _ :: _ :: _ :: _ => cases h
section
variable {e : Expr}
noncomputable def yXName (e : Expr) : Option { p : Str // ∃ q, e = .Name p q } := if h : e.ctorIdx = 23 then Expr.Name.elim (motive_1 := fun e => Option { p : Str // ∃ q, e = .Name p q }) e h (fun x _ => some ⟨x, ⟨_, rfl⟩⟩) else none
noncomputable def xName (e : Expr) : Option (Str) := (yXName e).map (·.1)
theorem xName_of {e : Expr} {p : Str} (h : xName e = some p) : ∃ q, e = .Name p q := subOf (o := yXName e) h
noncomputable def yXCon (e : Expr) : Option { p : Const // ∃ q : _ × _, e = .Constant p q.1 q.2 } := if h : e.ctorIdx = 19 then Expr.Constant.elim (motive_1 := fun e => Option { p : Const // ∃ q : _ × _, e = .Constant p q.1 q.2 }) e h (fun c _ _ => some ⟨c, ⟨(_, _), rfl⟩⟩) else none
noncomputable def xCon (e : Expr) : Option (Const) := (yXCon e).map (·.1)
theorem xCon_of {e : Expr} {p : Const} (h : xCon e = some p) : ∃ q : _ × _, e = .Constant p q.1 q.2 := subOf (o := yXCon e) h
noncomputable def yXAttr (e : Expr) : Option { p : Expr × Str × Pos // ∃ q, q = p.2.2 ∧ e = .Attribute p.1 p.2.1 q } := if h : e.ctorIdx = 20 then Expr.Attribute.elim (motive_1 := fun e => Option { p : Expr × Str × Pos // ∃ q, q = p.2.2 ∧ e = .Attribute p.1 p.2.1 q }) e h (fun v x p => some ⟨(v, x, p), ⟨_, rfl, rfl⟩⟩) else none
noncomputable def xAttr (e : Expr) : Option (Expr × Str × Pos) := (yXAttr e).map (·.1)
theorem xAttr_of {e : Expr} {p : Expr × Str × Pos} (h : xAttr e = some p) : ∃ q, q = p.2.2 ∧ e = .Attribute p.1 p.2.1 q := subOf (o := yXAttr e) h
noncomputable def yXSub (e : Expr) : Option { p : Expr × Expr // ∃ q, e = .Subscript p.1 p.2 q } := if h : e.ctorIdx = 21 then Expr.Subscript.elim (motive_1 := fun e => Option { p : Expr × Expr // ∃ q, e = .Subscript p.1 p.2 q }) e h (fun v s _ => some ⟨(v, s), ⟨_, rfl⟩⟩) else none
noncomputable def xSub (e : Expr) : Option (Expr × Expr) := (yXSub e).map (·.1)
theorem xSub_of {e : Expr} {p : Expr × Expr} (h : xSub e = some p) : ∃ q, e = .Subscript p.1 p.2 q := subOf (o := yXSub e) h
noncomputable def yXUpto (e : Expr) : Option { p : Option Expr × Option Expr × Option Expr // ∃ q, e = .Slice p.1 p.2.1 p.2.2 q } := if h : e.ctorIdx = 26 then Expr.Slice.elim (motive_1 := fun e => Option { p : Option Expr × Option Expr × Option Expr // ∃ q, e = .Slice p.1 p.2.1 p.2.2 q }) e h (fun l h s _ => some ⟨(l, h, s), ⟨_, rfl⟩⟩) else none
noncomputable def xUpto (e : Expr) : Option (Option Expr × Option Expr × Option Expr) := (yXUpto e).map (·.1)
theorem xUpto_of {e : Expr} {p : Option Expr × Option Expr × Option Expr} (h : xUpto e = some p) : ∃ q, e = .Slice p.1 p.2.1 p.2.2 q := subOf (o := yXUpto e) h
noncomputable def yXBin (e : Expr) : Option { p : Expr × Operator × Expr // ∃ q, e = .BinOp p.1 p.2.1 p.2.2 q } := if h : e.ctorIdx = 2 then Expr.BinOp.elim (motive_1 := fun e => Option { p : Expr × Operator × Expr // ∃ q, e = .BinOp p.1 p.2.1 p.2.2 q }) e h (fun l o r _ => some ⟨(l, o, r), ⟨_, rfl⟩⟩) else none
noncomputable def xBin (e : Expr) : Option (Expr × Operator × Expr) := (yXBin e).map (·.1)
theorem xBin_of {e : Expr} {p : Expr × Operator × Expr} (h : xBin e = some p) : ∃ q, e = .BinOp p.1 p.2.1 p.2.2 q := subOf (o := yXBin e) h
noncomputable def yXCmp (e : Expr) : Option { p : Expr × List CmpOp × List Expr // ∃ q, e = .Compare p.1 p.2.1 p.2.2 q } := if h : e.ctorIdx = 15 then Expr.Compare.elim (motive_1 := fun e => Option { p : Expr × List CmpOp × List Expr // ∃ q, e = .Compare p.1 p.2.1 p.2.2 q }) e h (fun l o r _ => some ⟨(l, o, r), ⟨_, rfl⟩⟩) else none
noncomputable def xCmp (e : Expr) : Option (Expr × List CmpOp × List Expr) := (yXCmp e).map (·.1)
theorem xCmp_of {e : Expr} {p : Expr × List CmpOp × List Expr} (h : xCmp e = some p) : ∃ q, e = .Compare p.1 p.2.1 p.2.2 q := subOf (o := yXCmp e) h
noncomputable def yXBool (e : Expr) : Option { p : BoolOp × List Expr // ∃ q, e = .BoolOp p.1 p.2 q } := if h : e.ctorIdx = 0 then Expr.BoolOp.elim (motive_1 := fun e => Option { p : BoolOp × List Expr // ∃ q, e = .BoolOp p.1 p.2 q }) e h (fun o vs _ => some ⟨(o, vs), ⟨_, rfl⟩⟩) else none
noncomputable def xBool (e : Expr) : Option (BoolOp × List Expr) := (yXBool e).map (·.1)
theorem xBool_of {e : Expr} {p : BoolOp × List Expr} (h : xBool e = some p) : ∃ q, e = .BoolOp p.1 p.2 q := subOf (o := yXBool e) h
noncomputable def yXUn (e : Expr) : Option { p : UnaryOp × Expr // ∃ q, e = .UnaryOp p.1 p.2 q } := if h : e.ctorIdx = 3 then Expr.UnaryOp.elim (motive_1 := fun e => Option { p : UnaryOp × Expr // ∃ q, e = .UnaryOp p.1 p.2 q }) e h (fun o a _ => some ⟨(o, a), ⟨_, rfl⟩⟩) else none
noncomputable def xUn (e : Expr) : Option (UnaryOp × Expr) := (yXUn e).map (·.1)
theorem xUn_of {e : Expr} {p : UnaryOp × Expr} (h : xUn e = some p) : ∃ q, e = .UnaryOp p.1 p.2 q := subOf (o := yXUn e) h
noncomputable def yXIf (e : Expr) : Option { p : Expr × Expr × Expr // ∃ q, e = .IfExp p.1 p.2.1 p.2.2 q } := if h : e.ctorIdx = 5 then Expr.IfExp.elim (motive_1 := fun e => Option { p : Expr × Expr × Expr // ∃ q, e = .IfExp p.1 p.2.1 p.2.2 q }) e h (fun c a b _ => some ⟨(c, a, b), ⟨_, rfl⟩⟩) else none
noncomputable def xIf (e : Expr) : Option (Expr × Expr × Expr) := (yXIf e).map (·.1)
theorem xIf_of {e : Expr} {p : Expr × Expr × Expr} (h : xIf e = some p) : ∃ q, e = .IfExp p.1 p.2.1 p.2.2 q := subOf (o := yXIf e) h
noncomputable def yXList (e : Expr) : Option { p : List Expr // ∃ q, e = .List p q } := if h : e.ctorIdx = 24 then Expr.List.elim (motive_1 := fun e => Option { p : List Expr // ∃ q, e = .List p q }) e h (fun es _ => some ⟨es, ⟨_, rfl⟩⟩) else none
noncomputable def xList (e : Expr) : Option (List Expr) := (yXList e).map (·.1)
theorem xList_of {e : Expr} {p : List Expr} (h : xList e = some p) : ∃ q, e = .List p q := subOf (o := yXList e) h
noncomputable def yXTup (e : Expr) : Option { p : List Expr // ∃ q : _ × _, e = .Tuple p q.1 q.2 } := if h : e.ctorIdx = 25 then Expr.Tuple.elim (motive_1 := fun e => Option { p : List Expr // ∃ q : _ × _, e = .Tuple p q.1 q.2 }) e h (fun es _ _ => some ⟨es, ⟨(_, _), rfl⟩⟩) else none
noncomputable def xTup (e : Expr) : Option (List Expr) := (yXTup e).map (·.1)
theorem xTup_of {e : Expr} {p : List Expr} (h : xTup e = some p) : ∃ q : _ × _, e = .Tuple p q.1 q.2 := subOf (o := yXTup e) h
noncomputable def yXDict (e : Expr) : Option { p : List (Option Expr) × List Expr // ∃ q, e = .Dict p.1 p.2 q } := if h : e.ctorIdx = 6 then Expr.Dict.elim (motive_1 := fun e => Option { p : List (Option Expr) × List Expr // ∃ q, e = .Dict p.1 p.2 q }) e h (fun ks vs _ => some ⟨(ks, vs), ⟨_, rfl⟩⟩) else none
noncomputable def xDict (e : Expr) : Option (List (Option Expr) × List Expr) := (yXDict e).map (·.1)
theorem xDict_of {e : Expr} {p : List (Option Expr) × List Expr} (h : xDict e = some p) : ∃ q, e = .Dict p.1 p.2 q := subOf (o := yXDict e) h
noncomputable def yXComp (e : Expr) : Option { p : Expr × List Comprehension × Scope // ∃ q, e = .ListComp p.1 p.2.1 p.2.2 q } := if h : e.ctorIdx = 8 then Expr.ListComp.elim (motive_1 := fun e => Option { p : Expr × List Comprehension × Scope // ∃ q, e = .ListComp p.1 p.2.1 p.2.2 q }) e h (fun e g s _ => some ⟨(e, g, s), ⟨_, rfl⟩⟩) else none
noncomputable def xComp (e : Expr) : Option (Expr × List Comprehension × Scope) := (yXComp e).map (·.1)
theorem xComp_of {e : Expr} {p : Expr × List Comprehension × Scope} (h : xComp e = some p) : ∃ q, e = .ListComp p.1 p.2.1 p.2.2 q := subOf (o := yXComp e) h
noncomputable def yXCall (e : Expr) : Option { p : Expr × List Expr × List Keyword × Pos // e = .Call p.1 p.2.1 p.2.2.1 p.2.2.2 } := if h : e.ctorIdx = 16 then Expr.Call.elim (motive_1 := fun e => Option { p : Expr × List Expr × List Keyword × Pos // e = .Call p.1 p.2.1 p.2.2.1 p.2.2.2 }) e h (fun f as ks p => some ⟨(f, as, ks, p), rfl⟩) else none
noncomputable def xCall (e : Expr) : Option (Expr × List Expr × List Keyword × Pos) := (yXCall e).map (·.1)
theorem xCall_of {e : Expr} {p : Expr × List Expr × List Keyword × Pos} (h : xCall e = some p) : e = .Call p.1 p.2.1 p.2.2.1 p.2.2.2 := subOf (o := yXCall e) h
end
noncomputable def isStar (e : Expr) : Bool := e.ctorIdx == 22
noncomputable def notSuper (v : Expr) : Bool := (xCall v).all fun c => c.1.ctorIdx == 20 || (xName c.1).any fun (y : Str) => y != "super"
noncomputable def chkLit (sc : Sc) (v : V) (e : Expr) : Bool := (xCon e).any (sameC v) || (xName e).any fun x => isGlob sc x && gvalB x v
noncomputable def chkNm (p : Str → Bool) (e : Expr) : Bool := (xName e).any p
noncomputable def chkTg (csc : Sc) (tg : List Nat) (e : Expr) : Bool :=
 (xName e).any (fun x => (one tg).any fun i => isLoc csc true i x) ||
 (xTup e).any fun es => (two tg).any fun t => (two es).any fun e => chkNm (isLoc csc true t.1) e.1 && chkNm (isLoc csc true t.2) e.2
noncomputable def okScope (sc : Sc) (s : Scope) : Bool := decide (s.kind = .function) && decide (s.names.map (·.1)).Nodup && s.names.all fun p => p.2 != .cell && (p.2 != .local || s.names.lookup p.1 == some .local) && (p.2 != .free || (sc.lookup p.1 == some .cell && (List.range vCount).any fun i => p.1 == vname i))
noncomputable def plainLen (es : List Expr) : Bool := decide (es.length < 30)
noncomputable def conDK : Const → Option DK | .str b => some (.s b) | .int b => some (.i b) | _ => none
noncomputable def chkDK (k : DK) (e : Expr) : Bool := (xCon e).any fun c => decide (conDK c = some k)
noncomputable def chkDKs : List DK → List (Option Expr) → Bool
 | [], ks => ks.isEmpty
 | k :: ks, es => (match es with | e :: r => e.any (chkDK k) && chkDKs ks r | [] => false)
noncomputable def noneE : Option Expr → Bool | none => true | some _ => false
mutual
noncomputable def chkE (sc : Sc) (inC : Bool) : E → Expr → Bool
 | .dead, _ => true
 | .lit v, e => chkLit sc v e
 | .loc i, e => chkNm (isLoc sc inC i) e
 | .up i, e => chkNm (isUp sc inC i) e
 | .attr e f, a => (xAttr a).any fun a => a.2.1 == fname f && (notSuper a.1 && chkE sc inC e a.1)
 | .idx _ e i, a => (xSub a).any fun a => plainSlice a.2 && (chkE sc inC e a.1 && chkE sc inC i a.2)
 | .pre e n, a => (xSub a).any fun a => (xUpto a.2).any fun s => noneE s.1 && (noneE s.2.2 && (chkE sc inC e a.1 && s.2.1.any fun h => chkE sc inC n h))
 | .bin o a b, x => (xBin x).any fun x => x.2.1 == opOf o && (chkE sc inC a x.1 && chkE sc inC b x.2.2)
 | .cmp k n a b, x => (xCmp x).any fun x => (one x.2.1).any fun op => (one x.2.2).any fun r => decide (op = ckOp k n) && (notSet r && (chkE sc inC a x.1 && chkE sc inC b r))
 | .cmp2 k1 k2 a b c, x => (xCmp x).any fun x => (two x.2.1).any fun op => (two x.2.2).any fun r => decide (op.1 = ckOp k1 false) && (decide (op.2 = ckOp k2 false) && (notSet r.2 && (chkE sc inC a x.1 && (chkE sc inC b r.1 && chkE sc inC c r.2))))
 | .and es, x => (xBool x).any fun x => decide (x.1 = .And) && chkEs sc inC es x.2
 | .or es, x => (xBool x).any fun x => decide (x.1 = .Or) && chkEs sc inC es x.2
 | .not e, x => (xUn x).any fun x => decide (x.1 = .Not) && chkE sc inC e x.2
 | .neg e, x => (xUn x).any fun x => decide (x.1 = .USub) && chkE sc inC e x.2
 | .ite c a b, x => (xIf x).any fun x => chkE sc inC c x.1 && (chkE sc inC a x.2.1 && chkE sc inC b x.2.2)
 | .lst es, x => (xList x).any (chkEs sc inC es)
 | .tup es, x => (xTup x).any (chkEs sc inC es)
 | .dct ks vs, x => (xDict x).any fun x => chkDKs ks x.1 && (decide (x.1.length = x.2.length) && (decide (x.1.length ≤ 15) && ((ks.all DK.isS || ks.all DK.isI) && chkEs sc inC vs x.2)))
 | .comp _ elt tg it cond, x => (xComp x).any fun x => (one x.2.1).any fun g => decide (g.is_async = 0) && (!inC && (notSet g.iter && (okScope sc x.2.2 && (chkTg x.2.2.names tg g.target && (chkE sc inC it g.iter && (chkE x.2.2.names true elt x.1 && (match cond with
    | none => g.ifs.isEmpty
    | some c => (one g.ifs).any fun i => chkE x.2.2.names true c i)))))))
 | .callF f args, x => (xCall x).any fun x => x.2.2.1.isEmpty && (chkNm (fun n => isGlob sc n && gfuns.any fun p => decide (p.1 = n) && p.2 == f) x.1 && chkEs sc inC args x.2.1)
 | .new c args, x => (xCall x).any fun x => x.2.2.1.isEmpty && (chkNm (fun n => isGlob sc n && gclss.any fun p => decide (p.1 = n) && p.2 == c) x.1 && chkEs sc inC args x.2.1)
 | .callO _ m o args, x => (xCall x).any fun x => x.2.2.1.isEmpty && ((xAttr x.1).any fun a => a.2.1 == methName m && ((a.2.2.endLine == x.2.2.2.line) && (notSuper a.1 && chkE sc inC o a.1)) && (plainLen x.2.1 && chkEs sc inC args x.2.1))
 | .callB m o args, x => (xCall x).any fun x => x.2.2.1.isEmpty && ((xAttr x.1).any fun a => a.2.1 == bName m && ((a.2.2.endLine == x.2.2.2.line) && (notSuper a.1 && chkE sc inC o a.1)) && (plainLen x.2.1 && chkEs sc inC args x.2.1))
 | .isin e t, x => (xCall x).any fun x => x.2.2.1.isEmpty && (chkNm (fun n => isGlob sc n && (n == "isinstance")) x.1 && (two x.2.1).any fun a => chkNm (fun b => isGlob sc b && gtys.any fun p => decide (p.1 = b) && tyVal p.2 == tyVal t) a.2 && (!isStar a.1 && chkE sc inC e a.1))
 | .bi b args, x => (xCall x).any fun x => x.2.2.1.isEmpty && (chkNm (fun n => isGlob sc n && gbis.any fun p => decide (p.1 = n) && p.2 == biVal b) x.1 && chkEs sc inC args x.2.1)
noncomputable def chkEs (sc : Sc) (inC : Bool) : Es → List Expr → Bool
 | .nil, es => es.isEmpty
 | .cons e r, es => (match es with | x :: xs => !isStar x && (chkE sc inC e x && chkEs sc inC r xs) | [] => false)
end
theorem and2 {a b : Bool} (h : (a && b) = true) : a = true ∧ b = true := andS h
theorem anyC {α : Type} {o : Option α} {p : α → Bool} {C : Prop} (h : o.any p = true) (k : ∀ a, o = some a → p a = true → C) : C := by
 cases o with
 | none => cases h
 | some a => exact k a rfl h
theorem andC {a b : Bool} {C : Prop} (h : (a && b) = true) (k : a = true → b = true → C) : C := k (and2 h).1 (and2 h).2
theorem viewC {α β π : Type} {v : β → Option α} {p : α → Bool} {x : β} {C : β → Prop} {mk : α → π → β} (hv : ∀ {x a}, v x = some a → ∃ q, x = mk a q) (h : (v x).any p = true) (k : ∀ a q, p a = true → C (mk a q)) : C x :=
 anyC h fun a e g => (hv e).elim fun q e => e ▸ k a q g
theorem viewE {α β : Type} {v : β → Option α} {p : α → Bool} {x : β} {C : β → Prop} {mk : α → β} (hv : ∀ {x a}, v x = some a → x = mk a) (h : (v x).any p = true) (k : ∀ a, p a = true → C (mk a)) : C x :=
 anyC h fun a e g => hv e ▸ k a g
theorem oneC {α : Type} {l : List α} {p : α → Bool} {C : List α → Prop} (h : (one l).any p = true) (k : ∀ a, p a = true → C [a]) : C l := viewE one_of h k
theorem twoC {α : Type} {l : List α} {p : α × α → Bool} {C : List α → Prop} (h : (two l).any p = true) (k : ∀ a, p a = true → C [a.1, a.2]) : C l := viewE two_of h k
theorem nilC {α : Type} {l : List α} {C : List α → Prop} (h : l.isEmpty = true) (k : C []) : C l := List.isEmpty_iff.mp h ▸ k
theorem nmC {p : Str → Bool} {t : Expr} {C : Expr → Prop} (h : chkNm p t = true) (k : ∀ y q, p y = true → C (.Name y q)) : C t := viewC xName_of h k
noncomputable def cxF (sc : Sc) : Cx := ⟨fun x i => sc.lookup x = some .local ∧ x = vname i ∧ i < vCount, fun x i => sc.lookup x = some .cell ∧ x = vname i ∧ i < vCount, fun _ _ => False, fun x => sc.lookup x = some .globalImplicit⟩
noncomputable def cxC (csc : Sc) : Cx := ⟨fun x i => csc.lookup x = some .local ∧ x = vname i ∧ i < vCount, fun _ _ => False, fun x i => csc.lookup x = some .free ∧ x = vname i ∧ i < vCount, fun x => csc.lookup x = some .globalImplicit⟩
noncomputable def cxOf (sc : Sc) (inC : Bool) : Cx := if inC then cxC sc else cxF sc
structure Gd (w : World) (K : Frag) (b₀ : Heap) (mg mb : Str → Option Value) : Prop where
 md : Md w b₀ mg mb
 X : KX K b₀
 hb : ∀ x : Str, x ≠ "__name__" → mb x = bootBuiltins x
structure RB (n : Nat) (q : Bool) (A : Around) : Prop where
 depth : A.depth + 4 * n + 23 < recursionLimit
 units : A.units + 20 * n + 117 < cLine
 hd : q = true → A.handled = none
 frames : ∃ l, A.frames = some l
theorem RB.rm {n : Nat} {q : Bool} {A : Around} (R : RB n q A) : Rm n q A := ⟨by have := R.depth; omega, by have := R.units; omega, R.hd, R.frames⟩
theorem RB.u {n : Nat} {q : Bool} {A : Around} (R : RB n q A) : A.units + 100 < cLine := by have := R.units; omega
noncomputable def SimC (prog : Program) (w : World) (b₀ : Heap) (A : Around) (c : Code) (W : Wd) (st : St) (s : Shared) (res : Option (Except Nat V × St)) : Prop :=
 ∀ r st', res = some (r, st') → ∀ (R : Result → Shared → Prop),
  (∀ a b W' h' tk, r = .ok a → Inv prog w b₀ W' st' h' → Step (fAddrs A) W st s.heap W' st' h' → RV w.params W' st'.n a b → R (.ok (.ret b)) ⟨h', s.gens, s.drawn, tk, s.os⟩) →
  (∀ c e W' h' tk, r = .error c → ExPost prog w b₀ A W st s.heap W' st' h' c e → R (.error e) ⟨h', s.gens, s.drawn, tk, s.os⟩) →
  codeAny (model prog w) A c R s
noncomputable def CallOk (prog : Program) (w : World) (b₀ : Heap) (call : Addr → List V → M V) (q : Bool) (n : Nat) : Prop :=
 ∀ (f : Addr) (vs : List V) (rvs : List Value) (W : Wd) (st : St) (s : Shared) (A : Around), Inv prog w b₀ W st s.heap → SK A W st.n s.heap → Rm n q A → RVs w.params W st.n vs rvs →
  SimC prog w b₀ A (.call (.ref f) ⟨rvs, []⟩) W st s (call f vs st)
noncomputable def NewOk (prog : Program) (w : World) (b₀ : Heap) (call : Addr → List V → M V) (q : Bool) (n : Nat) : Prop :=
 ∀ (c : Nat) (vs : List V) (rvs : List Value) (W : Wd) (st : St) (s : Shared) (A : Around), c < 6 → Inv prog w b₀ W st s.heap → SK A W st.n s.heap → RB n q A → RVs w.params W st.n vs rvs →
  SimC prog w b₀ A (.call (.ref (clsAddr c)) ⟨rvs, []⟩) W st s (newV call c vs st)
section
variable {prog : Program} {w : World} {b₀ : Heap} {W : Wd} {st : St} {s : Shared} {A : Around} {α β : Type} {Rl : Wd → Nat → α → β → Prop} {res : Option (Except Nat α × St)}
theorem SimC.call {f : Value} {rvs : List Value} {res : Option (Except Nat V × St)} (x : SimC prog w b₀ A (.call f ⟨rvs, []⟩) W st s res) : Sim prog w b₀ A (PySem.call f rvs) W st s (RlV w) res :=
 fun r st' e Q E hQ hE => wpAny_call (x r st' e _ (fun a b W' h' tk hr I S R => hQ a b W' h' tk hr I S R) (fun c e W' h' tk hr X => hE c e W' h' tk hr X))
theorem Sim.operate {vs : List Value} {t : Sem Value} {Rl : Wd → Nat → α → Value → Prop} (x : Sim prog w b₀ A t W st s Rl res) : Sim prog w b₀ A (PySem.operate vs t) W st s Rl res := x.tree fun _ _ => wpAny_operateT
theorem Sim.pureBind {γ : Type} {a : γ} {f : γ → Sem β} (x : Sim prog w b₀ A (f a) W st s Rl res) : Sim prog w b₀ A (Pure.pure a >>= f) W st s Rl res := x.tree fun _ _ h => wpAny_bind (wpAny_pure h)
theorem Sim.then {β' : Type} {t : Sem β} {f : β → Sem β'} {Rl' : Wd → Nat → α → β' → Prop} (x : Sim prog w b₀ A t W st s Rl res) (h : ∀ b, ∃ b', (∀ W n a, Rl W n a b → Rl' W n a b') ∧ ∀ (Q : β' → Shared → Prop) (E : Value → Shared → Prop) (s : Shared), Q b' s → wpAny (model prog w) A (f b) Q E s) :
  Sim prog w b₀ A (t >>= f) W st s Rl' res := by
 intro r st' e Q E hQ hE
 refine wpAny_bind (x r st' e _ E (fun a b W' h' tk hr I S R => ?_) hE)
 obtain ⟨b', h1, h2⟩ := h b
 exact h2 Q E _ (hQ a b' W' h' tk hr I S (h1 _ _ _ R))
theorem Sim.map {γ : Type} {t : Sem β} {m : M α} {f : α → γ} {Rl' : Wd → Nat → γ → β → Prop} (x : Sim prog w b₀ A t W st s Rl (m st)) (h : ∀ W n a b, Rl W n a b → Rl' W n (f a) b) : Sim prog w b₀ A t W st s Rl' ((m.bind fun a => M.pure (f a)) st) := by
 intro r st' e Q E hQ hE
 unfold M.bind at e
 cases q : m st with
 | none => rw [q] at e; cases e
 | some p =>
  obtain ⟨r₁, st₁⟩ := p
  rw [q] at e
  cases r₁ with
  | ok a => cases e; exact x _ _ q Q E (fun a' b W' h' tk hr I S R => by cases hr; exact hQ _ b W' h' tk rfl I S (h _ _ _ _ R)) fun c e W' h' tk hr X => by cases hr
  | error c => cases e; exact x _ _ q Q E (fun a' b W' h' tk hr I S R => by cases hr) fun c e W' h' tk hr X => by cases hr; exact hE _ e W' h' tk rfl X
theorem Sim.toV {t : Sem Value} {m : M Bool} (x : Sim prog w b₀ A t W st s RlBV (m st)) : Sim prog w b₀ A t W st s (RlV w) ((boolV m).1 st) := x.map (f := V.bool) fun _ _ _ _ h => h
end
theorem M.bind_assoc {α β γ : Type} (m : M α) (f : α → M β) (g : β → M γ) : (m.bind f).bind g = m.bind fun a => (f a).bind g := by
 funext st
 unfold M.bind
 cases m st with
 | none => rfl
 | some p => obtain ⟨r, st'⟩ := p; cases r <;> rfl
section
variable {prog : Program} {w : World} {b₀ : Heap} {K : Frag} {mg mb : Str → Option Value} {call : Addr → List V → M V} {q : Bool} {n : Nat} {A : Around}
theorem gval_GN (G : Gd w K b₀ mg mb) {x : Str} {v : Value} (h : gval K x = some v) (hn : x ≠ "__name__") : GN mg mb x v := by
 obtain ⟨o, h1, h2⟩ := bndS h
 cases o with
 | some v' => cases h2; exact .inl (mg_of G.X.inn G.md.g h1)
 | none => exact .inr ⟨mg_none_of G.X.inn G.md.g h1, (G.hb x hn).trans h2⟩
theorem strs_tup {P : Params} {W : Wd} {n : Nat} {ts : List Str} : ∀ {vs : List Value} {xs : List V}, areStrs vs ts = true → strsOf xs = some ts → RVs P W n xs vs := by
 induction ts with
 | nil =>
  intro vs xs h e
  cases xs with
  | nil => cases vs with
   | nil => rfl
   | cons _ _ => cases h
  | cons x xs => obtain ⟨_, _, e⟩ := bndS e; obtain ⟨_, _, e⟩ := mapS e; cases e
 | cons y ys ih =>
  intro vs xs h e
  cases vs with
  | nil => cases h
  | cons v vs =>
   obtain ⟨h1, h2⟩ := andS h
   cases xs with
   | nil => cases e
   | cons x xs =>
    obtain ⟨z, hz, e⟩ := bndS e
    obtain ⟨l, hl, e⟩ := mapS e
    cases e
    refine ⟨v, vs, rfl, ?_, ih h2 hl⟩
    cases v with
    | str a t =>
     obtain rfl := (odt h1 : _ = _)
     obtain rfl := V.ofStr hz
     exact RV.str _ _
    | _ => exact nfC h1
theorem data_seq {d : Data} {vs : List Value} {C : Prop} (h : (match d with | .seq xs _ => some xs.toList | _ => none) = some vs) (k : ∀ n, d = .seq vs.toArray n → C) : C := by
 cases d with
 | seq xs n => exact k n (by rw [← inj1 h, Array.toArray_toList])
 | _ => exact noC h
theorem tup_eq {o : Obj} {d : Data} (h1 : o.cls = .type "tuple") (h2 : o.dict = none) (h3 : o.slots.size = 0) (h4 : o.data = d) : o = { cls := .type "tuple", data := d } := by
 cases o with
 | mk a b c e => rw [show a = _ from h1, show b = _ from h2, show e = #[] from Array.eq_empty_of_size_eq_zero h3, show c = _ from h4]
theorem isTup_of {o : Obj} {vs : List Value} (h : isTup o = some vs) : ∃ k, o = { cls := .type "tuple", data := .seq vs.toArray k } := by
 unfold isTup at h
 by_cases q : (o.cls == .type "tuple" && o.dict.isNone && o.slots.size == 0) = true
 ·rw [if_pos q] at h
  have q1 := and2 q
  have q2 := and2 q1.1
  exact data_seq h fun n e => ⟨n, tup_eq (beq_iff_eq.mp q2.1) (Option.isNone_iff_eq_none.mp q2.2) (beq_iff_eq.mp q1.2) e⟩
 ·rw [if_neg q] at h; exact noC h
theorem gvals_ok (G : Gd w K b₀ mg mb) {x : Str} {v : V} (h : gvalB x v = true) : ∃ gv, GN mg mb x gv ∧ ∀ W n, (∀ a o, b₀.get? a = some o → W.B a = some o) → RV w.params W n v gv := by
 rcases Bool.or_eq_true_iff.mp h with h | h
 ·obtain ⟨p, hm, hp⟩ := List.any_eq_true.mp h
  obtain ⟨h1, h2⟩ := andS hp
  cases odt h1
  have h3 := List.all_eq_true.mp G.X.nums p hm
  obtain ⟨gv, hg, hi⟩ := any_some h3
  have hne : ∀ p ∈ gints, p.1 ≠ ("__name__" : Str) := by decide +kernel
  refine ⟨gv, gval_GN G hg (hne p hm), fun W n _ => ?_⟩
  cases V.ofInt (odt h2)
  obtain ⟨k, rfl⟩ := isIntV_of hi
  exact RV.int _ _
 ·rcases Bool.or_eq_true_iff.mp h with h | h
  ·obtain ⟨h1, h2⟩ := andS h
   cases odt h1
   obtain ⟨gv, hg, hi⟩ := any_some G.X.mark
   refine ⟨gv, gval_GN G hg (by decide), fun W n _ => ?_⟩
   cases V.ofBytes (odt h2)
   obtain ⟨k, rfl⟩ := isBytV_of hi
   exact RV.bytes _ _ (by decide)
  ·obtain ⟨h1, h2⟩ := andS h
   cases odt h1
   obtain ⟨xs, hx, h3⟩ := bndS (odt h2)
   obtain ⟨vs, hv, ha⟩ := any_some G.X.ttl
   obtain ⟨o, ho, ht⟩ := bndS hv
   obtain ⟨k, rfl⟩ := isTup_of ht
   have hm : (("_law_titles" : Str), Value.ref 572) ∈ gbis := by unfold gbis; repeat (first | exact .head _ | apply List.Mem.tail)
   refine ⟨.ref 572, gval_GN G (beq_iff_eq.mp (List.all_eq_true.mp G.X.bis _ hm)) (by decide), fun W n hb => ?_⟩
   cases V.ofTup hx
   exact RV.tup (hb _ _ (G.X.inn _ _ ho)) (strs_tup ha h3)
theorem isGlob_of {sc : Sc} {inC : Bool} {x : Str} (h : isGlob sc x = true) : (cxOf sc inC).glob x ∧ (x == ("__debug__" : Str)) = false := by
 obtain ⟨h1, h2⟩ := andS h
 refine ⟨?_, (Bool.not_eq_true' _).mp h2⟩
 cases inC <;> exact beq_iff_eq.mp h1
noncomputable def isWhole : Expr → Bool
 | .UnaryOp op _ _ => !(op == .Not)
 | .BoolOp .. => false
 | .IfExp .. => false
 | .Compare .. => false
 | _ => true
theorem whole_of {e : Expr} {env : Env} (h : isWhole e = true) (whole : Sem Value) : isTrue e env whole = (do let v ← whole; standAt e.pos; holding [v] (truthy v)) := by
 cases e with
 | UnaryOp op _ _ => cases op <;> first | rfl | cases h
 | BoolOp => cases h
 | IfExp => cases h
 | Compare => cases h
 | _ => rfl
noncomputable def OkE (prog : Program) (w : World) (b₀ : Heap) (A : Around) (sc : Sc) (inC : Bool) (env : Env) (loc up : Loc) (e : Expr) (m : M V × M Bool) : Prop :=
 ∀ W st s, Inv prog w b₀ W st s.heap → FR w W st.n env (cxOf sc inC) loc up s.heap → SK A W st.n s.heap →
  Sim prog w b₀ A (eval e env) W st s (RlV w) (m.1 st) ∧ Sim prog w b₀ A (isTrue e env (eval e env)) W st s RlB (m.2 st)
noncomputable def OkEs (prog : Program) (w : World) (b₀ : Heap) (A : Around) (sc : Sc) (inC : Bool) (env : Env) (loc up : Loc) (es : List Expr) (m : M (List V)) : Prop :=
 ∀ pos W st s, Inv prog w b₀ W st s.heap → FR w W st.n env (cxOf sc inC) loc up s.heap → SK A W st.n s.heap →
  Sim prog w b₀ A (spliced (backTo pos (starEach es env))) W st s (RlVs w) (m st)
section
variable {sc : Sc} {inC : Bool} {env : Env} {loc up : Loc}
theorem OkE.tr {e : Expr} {m : M V} (hw : isWhole e = true)
  (h : ∀ W st s, Inv prog w b₀ W st s.heap → FR w W st.n env (cxOf sc inC) loc up s.heap → SK A W st.n s.heap → Sim prog w b₀ A (eval e env) W st s (RlV w) (m st)) : OkE prog w b₀ A sc inC env loc up e (trV m) := by
 intro W st s I F K
 refine ⟨h W st s I F K, ?_⟩
 rw [whole_of hw]
 exact Sim.bind (h W st s I F K) fun v rv W' st' h' tk I' S' R' => Sim.at (Sim.holding (sim_truth I' R'))
theorem OkE.bl {e : Expr} {m : M Bool} (hw : isWhole e = true)
  (h : ∀ W st s, Inv prog w b₀ W st s.heap → FR w W st.n env (cxOf sc inC) loc up s.heap → SK A W st.n s.heap → Sim prog w b₀ A (eval e env) W st s RlBV (m st)) : OkE prog w b₀ A sc inC env loc up e (boolV m) := by
 intro W st s I F K
 have x := h W st s I F K
 refine ⟨x.toV, ?_⟩
 rw [whole_of hw]
 intro r st' e Q E hQ hE
 refine wpAny_bind (x r st' e _ E (fun a b W' h' tk hr I' S' R' => ?_) hE)
 cases R'
 exact wpAny_bind (wpAny_standAt (wpAny_holding (wpAny_truthy_bool (hQ a a W' h' tk hr I' S' rfl))))
theorem starEach_plain {e : Expr} {rest : List Expr} {env : Env} (h : isStar e = false) : starEach (e :: rest) env = (false, eval e env) :: starEach rest env := by
 cases e <;> first | rfl | cases h
theorem OkEs.nil : OkEs prog w b₀ A sc inC env loc up [] (M.pure []) := fun pos W st s I F K => Sim.rule fun Q E hQ => wpAny_items_nil (hQ [] W s.heap s.toks I (.refl _ _ _) rfl)
theorem OkEs.cons {e : Expr} {es : List Expr} {m : M V × M Bool} {ms : M (List V)} (hs : isStar e = false) (h : OkE prog w b₀ A sc inC env loc up e m) (hr : OkEs prog w b₀ A sc inC env loc up es ms) :
  OkEs prog w b₀ A sc inC env loc up (e :: es) (m.1.bind fun v => ms.bind fun vs => M.pure (v :: vs)) := by
 intro pos W st s I F K
 rw [starEach_plain hs]
 show Sim prog w b₀ A (do
  let v ← eval e env
  let here ← (pure [v] : Sem (List Value))
  return here ++ (← PySem.holding here (spliced (backTo pos (starEach es env))))) W st s (RlVs w) _
 refine Sim.bind (h W st s I F K).1 fun v rv W' st' h' tk I' S' R' => Sim.pureBind ?_
 refine Sim.bind (Sim.holding (hr pos W' st' _ I' (F.step S') (K.step S'))) fun vs rvs W2 st2 h2 tk2 I2 S2 R2 => ?_
 exact Sim.pure I2 ⟨rv, rvs, rfl, R'.mono S2.le S2.grow, R2⟩
theorem ok_lit (G : Gd w K b₀ mg mb) {v : V} {e : Expr} (h : chkLit sc v e = true) : OkE prog w b₀ A sc inC env loc up e (trV (M.pure v)) := by
 rcases Bool.or_eq_true_iff.mp h with h | h
 ·obtain ⟨c, hc, h⟩ := any_some h
  obtain ⟨q, rfl⟩ := xCon_of hc
  refine OkE.tr rfl fun W st s I F K => ?_
  cases c with
  | none => cases V.ofNil h; exact sim_const_none I
  | bool b => cases V.ofBool (odt h); exact sim_const_bool I
  | int b => cases V.ofInt (odt h); exact sim_const_int I
  | str b => cases V.ofStr (odt h); exact sim_const_str I
  | bytes b =>
   cases V.ofBytes (odt h)
   refine Sim.rule fun Q E hQ => wpAny_mkTextBytes (hQ _ W s.heap (s.toks + 1) I (.refl _ _ _) ?_)
   have e1 : b.toArray = bytesArr (b.map UInt8.toNat) := by unfold bytesArr; rw [List.map_map, show UInt8.ofNat ∘ UInt8.toNat = id from funext fun x => UInt8.ofNat_toNat, List.map_id]
   rw [e1]
   exact RV.bytes _ _ fun x hx => let ⟨y, _, e⟩ := List.mem_map.mp hx; e ▸ y.toNat_lt
  | _ => cases h
 ·obtain ⟨x, hx, h⟩ := any_some h
  obtain ⟨q, rfl⟩ := xName_of hx
  obtain ⟨h1, h2⟩ := andS h
  refine OkE.tr rfl fun W st s I F K => ?_
  obtain ⟨gx, hd⟩ := isGlob_of (inC := inC) h1
  obtain ⟨gv, g1, g2⟩ := gvals_ok G h2
  exact sim_glob G.md I F gx hd g1 g2
theorem ok_loc {i : Nat} {x : Str} {pos : Pos} (h : isLoc sc inC i x = true) : OkE prog w b₀ A sc inC env loc up (.Name x pos) (trV (onO (loc i) M.pure)) := by
 refine OkE.tr rfl fun W st s I F K => ?_
 simp only [isLoc, Bool.and_eq_true, Bool.or_eq_true, beq_iff_eq, decide_eq_true_eq, Bool.not_eq_true'] at h
 obtain ⟨⟨hx, hi⟩, hk, hd⟩ := h
 rcases hk with hk | ⟨hc, hk⟩
 ·exact sim_loc I F (by cases inC <;> exact ⟨hk, hx, hi⟩) hd
 ·subst hc
  exact sim_cell I F (show (cxF sc).cell x i from ⟨hk, hx, hi⟩) hd
theorem ok_up {i : Nat} {x : Str} {pos : Pos} (h : isUp sc inC i x = true) : OkE prog w b₀ A sc inC env loc up (.Name x pos) (trV (onO (up i) M.pure)) := by
 refine OkE.tr rfl fun W st s I F K => ?_
 simp only [isUp, Bool.and_eq_true, beq_iff_eq, decide_eq_true_eq, Bool.not_eq_true'] at h
 obtain ⟨⟨hx, hi⟩, ⟨rfl, hk⟩, hd⟩ := h
 exact sim_up I F (show (cxC sc).up x i from ⟨hk, hx, hi⟩) hd
theorem base_call {f : Expr} {as : List Expr} {ks : List Keyword} {p : Pos} {x : Str} {whole : Sem Value} (h : (f.ctorIdx == 20 || (xName f).any fun (y : Str) => y != "super") = true) : attributeBase (.Call f as ks p) x env whole = whole :=
 (Bool.or_eq_true_iff.mp h).elim (fun h => Expr.Attribute.elim (motive_1 := fun f => attributeBase (.Call f as ks p) x env whole = whole) f (beq_iff_eq.mp h) fun _ _ _ => rfl)
  fun h => viewC (C := fun f => attributeBase (.Call f as ks p) x env whole = whole) xName_of h fun id q g => by
   cases as with
   | cons => rfl
   | nil =>
    cases ks with
    | cons => rfl
    | nil => exact if_pos (by rw [g]; rfl)
theorem base_plain {v : Expr} {x : Str} (h : notSuper v = true) (whole : Sem Value) : attributeBase v x env whole = whole := by
 cases v with
 | Call f as ks p => exact base_call h
 | _ => rfl
theorem ok_attr (G : Gd w K b₀ mg mb) {v : Expr} {f : Nat} {pos : Pos} {m : M V × M Bool} (hs : notSuper v = true) (h : OkE prog w b₀ A sc inC env loc up v m) :
  OkE prog w b₀ A sc inC env loc up (.Attribute v (fname f) pos) (trV (m.1.bind fun v => attrV v f)) := by
 refine OkE.tr rfl fun W st s I F K => ?_
 rw [arm_eval_Attribute, base_plain hs]
 refine Sim.bind (h W st s I F K).1 fun u ru W' st' h' tk I' S' R' => Sim.at ?_
 exact (Sim.holding (sim_attr (v := u) G.X I' R')).then fun b => ⟨b, fun _ _ _ r => r, fun Q E s hQ => wpAny_bind (wpAny_letTemporaryGo (wpAny_pure hQ))⟩
theorem ok_idx (G : Gd w K b₀ mg mb) (R : RB n q A) {t : IK} {v sl : Expr} {pos : Pos} {m k : M V × M Bool} (hp : plainSlice sl = true) (hv : OkE prog w b₀ A sc inC env loc up v m) (hk : OkE prog w b₀ A sc inC env loc up sl k) :
  OkE prog w b₀ A sc inC env loc up (.Subscript v sl pos) (trV (m.1.bind fun v => k.1.bind fun k => idxV t v k)) := by
 refine OkE.tr rfl fun W st s I F K => ?_
 rw [eval_Subscript]
 refine Sim.bind (hv W st s I F K).1 fun u ru W' st' h' tk I' S' R' => ?_
 refine Sim.bind (Sim.holding (hk W' st' _ I' (F.step S') (K.step S')).1) fun u2 ru2 W2 st2 h2 tk2 I2 S2 R2 => Sim.at ?_
 exact sim_idx G.md.sm R.u hp I2 (R'.mono S2.le S2.grow) R2
theorem ok_pre {v hi : Expr} {p pos : Pos} {m k : M V × M Bool} (hv : OkE prog w b₀ A sc inC env loc up v m) (hk : OkE prog w b₀ A sc inC env loc up hi k) :
  OkE prog w b₀ A sc inC env loc up (.Subscript v (.Slice none (some hi) none p) pos) (trV (m.1.bind fun v => k.1.bind fun k => preV v k)) := by
 refine OkE.tr rfl fun W st s I F K => ?_
 rw [eval_Subscript]
 refine Sim.bind (hv W st s I F K).1 fun u ru W' st' h' tk I' S' R' => ?_
 intro r st2 e Q E hQ hE
 show wpAny (model prog w) A (PySem.holding [ru] (do
  let l ← (pure Value.none : Sem Value)
  let u ← PySem.holding [l] (eval hi env)
  let s ← PySem.holding [l, u] (pure Value.none : Sem Value)
  newFields "slice" [l, u, s]) >>= fun i => standAt pos >>= fun _ => subscriptTail v (.Slice none (some hi) none p) ru i) Q E _
 refine wpAny_bind (wpAny_holding (wpAny_bind (wpAny_pure (wpAny_bind (wpAny_holding ((hk W' st' ⟨h', s.gens, s.drawn, tk, s.os⟩ I' (F.step S') (K.step S')).1.go e (fun a b W2 st2 h2 tk2 I2 S2 R2 e => ?_) hE))))))
 refine wpAny_bind (wpAny_holding (wpAny_pure ?_))
 exact sim_pre (s := ⟨h2, s.gens, s.drawn, tk2, s.os⟩) I2 (R'.mono S2.le S2.grow) R2 e fun a b W3 h3 tk3 hr I3 S3 R3 => hQ a b W3 h3 tk3 hr I3 (S2.trans I2 S3) R3
end
end
section
variable {prog : Program} {w : World} {b₀ : Heap} {K : Frag} {mg mb : Str → Option Value} {call : Addr → List V → M V} {q : Bool} {n : Nat} {A : Around}
variable {sc : Sc} {inC : Bool} {env : Env} {loc up : Loc}
theorem markedEach_one {op : CmpOp} {r : Expr} {t : Sem Value} (h : notSet r = true) : markedEach [op] [r] [t] = [t] := by
 show [markedBehindIn op r t] = [t]
 rw [markedBehindIn_of_false]
 cases r <;> first | rfl | (exact nfC h)
theorem ok_bin {l r : Expr} {o : Op} {pos : Pos} {a b : M V × M Bool} (ha : OkE prog w b₀ A sc inC env loc up l a) (hb : OkE prog w b₀ A sc inC env loc up r b) :
  OkE prog w b₀ A sc inC env loc up (.BinOp l (opOf o) r pos) (trV (a.1.bind fun x => b.1.bind fun y => opV o x y)) := by
 refine OkE.tr rfl fun W st s I F K => ?_
 rw [arm_eval_BinOp]
 refine Sim.bind (ha W st s I F K).1 fun u ru W' st' h' tk I' S' R' => ?_
 refine Sim.bind (Sim.holding (hb W' st' _ I' (F.step S') (K.step S')).1) fun u2 ru2 W2 st2 h2 tk2 I2 S2 R2 => Sim.at ?_
 exact Sim.operate (sim_op I2 (R'.mono S2.le S2.grow) R2)
theorem cmp_val (G : Gd w K b₀ mg mb) (R : RB n q A) {k : CK} {neg : Bool} {u u2 : V} {ru ru2 : Value} {W : Wd} {st : St} {s : Shared} (I : Inv prog w b₀ W st s.heap) (Ru : RV w.params W st.n u ru) (Ru2 : RV w.params W st.n u2 ru2) :
  Sim prog w b₀ A (PySem.operate [ru, ru2] (compareOp (ckOp k neg) ru ru2)) W st s RlBV (cmpV k neg u u2 st) := Sim.operate (sim_cmp G.md.sm R.u I Ru Ru2)
theorem cmp_test (G : Gd w K b₀ mg mb) (R : RB n q A) {k : CK} {neg : Bool} {u u2 : V} {ru ru2 : Value} {W : Wd} {st : St} {s : Shared} (I : Inv prog w b₀ W st s.heap) (Ru : RV w.params W st.n u ru) (Ru2 : RV w.params W st.n u2 ru2) :
  Sim prog w b₀ A (PySem.operate [ru, ru2] (compareOp (ckOp k neg) ru ru2) >>= fun c => PySem.holding [c] (truthy c)) W st s RlB (cmpV k neg u u2 st) := by
 intro r st' e Q E hQ hE
 refine wpAny_bind (cmp_val (k := k) (neg := neg) G R I Ru Ru2 r st' e _ E (fun a b W' h' tk hr I' S' R' => ?_) hE)
 obtain rfl := (R' : _ = _)
 exact wpAny_holding (wpAny_truthy_bool (hQ a a W' h' tk hr I' S' rfl))
theorem ok_cmp (G : Gd w K b₀ mg mb) (R : RB n q A) {l r : Expr} {k : CK} {neg : Bool} {pos : Pos} {a b : M V × M Bool} (hs : notSet r = true) (ha : OkE prog w b₀ A sc inC env loc up l a) (hb : OkE prog w b₀ A sc inC env loc up r b) :
  OkE prog w b₀ A sc inC env loc up (.Compare l [ckOp k neg] [r] pos) (boolV (a.1.bind fun x => b.1.bind fun y => cmpV k neg x y)) := by
 intro W st s I F K
 constructor
 ·refine Sim.toV ?_
  show Sim prog w b₀ A (eval l env >>= fun left => compareChain pos left [ckOp k neg] (markedEach [ckOp k neg] [r] [eval r env])) W st s RlBV _
  rw [markedEach_one hs]
  refine Sim.bind (ha W st s I F K).1 fun u ru W' st' h' tk I' S' R' => ?_
  show Sim prog w b₀ A (PySem.holding [ru] (eval r env) >>= fun rv => standAt pos >>= fun _ => PySem.operate [ru, rv] (compareOp (ckOp k neg) ru rv)) _ _ _ _ _
  exact Sim.bind (Sim.holding (hb W' st' _ I' (F.step S') (K.step S')).1) fun u2 ru2 W2 st2 h2 tk2 I2 S2 R2 => Sim.at (cmp_val G R I2 (R'.mono S2.le S2.grow) R2)
 ·show Sim prog w b₀ A (eval l env >>= fun left => testChain pos left [ckOp k neg] (markedEach [ckOp k neg] [r] [eval r env])) W st s RlB _
  rw [markedEach_one hs]
  refine Sim.bind (ha W st s I F K).1 fun u ru W' st' h' tk I' S' R' => ?_
  show Sim prog w b₀ A (PySem.holding [ru] (eval r env) >>= fun rv => standAt pos >>= fun _ => PySem.operate [ru, rv] (compareOp (ckOp k neg) ru rv) >>= fun c => PySem.holding [c] (truthy c)) _ _ _ _ _
  exact Sim.bind (Sim.holding (hb W' st' _ I' (F.step S') (K.step S')).1) fun u2 ru2 W2 st2 h2 tk2 I2 S2 R2 => Sim.at (cmp_test G R I2 (R'.mono S2.le S2.grow) R2)
theorem cmp_first (G : Gd w K b₀ mg mb) (R : RB n q A) {k : CK} {u u2 : V} {ru ru2 : Value} {W : Wd} {st : St} {s : Shared} (I : Inv prog w b₀ W st s.heap) (Ru : RV w.params W st.n u ru) (Ru2 : RV w.params W st.n u2 ru2) {α β : Type} {Rl : Wd → Nat → α → β → Prop} {f : Value → Bool → Sem β} {g : Bool → M α}
  (h : ∀ b W' st' h' tk, Inv prog w b₀ W' st' h' → Step (fAddrs A) W st s.heap W' st' h' → Sim prog w b₀ A (f (.bool b) b) W' st' ⟨h', s.gens, s.drawn, tk, s.os⟩ Rl (g b st')) :
  Sim prog w b₀ A (PySem.holding [ru, ru2] (compareOp (ckOp k false) ru ru2) >>= fun c => release [ru, ru2] [c] >>= fun _ => PySem.holding [c, ru2] (truthy c) >>= fun t => f c t) W st s Rl (((cmpV k false u u2).bind g) st) := by
 refine Sim.bind (Sim.holding (sim_cmp (k := k) (neg := false) G.md.sm R.u I Ru Ru2)) fun b rb W' st' h' tk I' S' R' => ?_
 obtain rfl := (R' : _ = _)
 exact (h b W' st' h' tk I' S').tree fun Q E x => wpAny_bind (wpAny_release (wpAny_bind (wpAny_holding (wpAny_truthy_bool x))))
theorem ok_cmp2 (G : Gd w K b₀ mg mb) (R : RB n q A) {l r1 r2 : Expr} {k1 k2 : CK} {pos : Pos} {a b c : M V × M Bool} (hs : notSet r2 = true) (ha : OkE prog w b₀ A sc inC env loc up l a) (hb : OkE prog w b₀ A sc inC env loc up r1 b) (hc : OkE prog w b₀ A sc inC env loc up r2 c) :
  OkE prog w b₀ A sc inC env loc up (.Compare l [ckOp k1 false, ckOp k2 false] [r1, r2] pos) (boolV (a.1.bind fun x => b.1.bind fun y => (cmpV k1 false x y).bind fun r => if r then c.1.bind fun z => cmpV k2 false y z else M.pure false)) := by
 intro W st s I F K
 constructor
 ·refine Sim.toV ?_
  show Sim prog w b₀ A (eval l env >>= fun left => compareChain pos left [ckOp k1 false, ckOp k2 false] (eval r1 env :: markedEach [ckOp k2 false] [r2] [eval r2 env])) W st s RlBV _
  rw [markedEach_one hs]
  refine Sim.bind (ha W st s I F K).1 fun u ru W' st' h' tk I' S' R' => ?_
  show Sim prog w b₀ A (PySem.holding [ru] (eval r1 env) >>= fun rv => standAt pos >>= fun _ => PySem.holding [ru, rv] (compareOp (ckOp k1 false) ru rv) >>= fun c => release [ru, rv] [c] >>= fun _ => PySem.holding [c, rv] (truthy c) >>= fun t =>
   if t then compareChain pos rv [ckOp k2 false] [eval r2 env] else pure c) _ _ _ _ _
  refine Sim.bind (Sim.holding (hb W' st' _ I' (F.step S') (K.step S')).1) fun u2 ru2 W2 st2 h2 tk2 I2 S2 R2 => Sim.at ?_
  refine cmp_first (f := fun c t => if t = true then compareChain pos ru2 [ckOp k2 false] [eval r2 env] else pure c) G R I2 (R'.mono S2.le S2.grow) R2 fun b W3 st3 h3 tk3 I3 S3 => ?_
  cases b with
  | false => exact Sim.pure I3 rfl
  | true =>
   show Sim prog w b₀ A (PySem.holding [ru2] (eval r2 env) >>= fun rv => standAt pos >>= fun _ => PySem.operate [ru2, rv] (compareOp (ckOp k2 false) ru2 rv)) _ _ _ _ _
   exact Sim.bind (Sim.holding (hc W3 st3 _ I3 (((F.step S').step S2).step S3) (((K.step S').step S2).step S3)).1) fun u4 ru4 W4 st4 h4 tk4 I4 S4 R4 => Sim.at (cmp_val G R I4 ((R2.mono S3.le S3.grow).mono S4.le S4.grow) R4)
 ·show Sim prog w b₀ A (eval l env >>= fun left => testChain pos left [ckOp k1 false, ckOp k2 false] (eval r1 env :: markedEach [ckOp k2 false] [r2] [eval r2 env])) W st s RlB _
  rw [markedEach_one hs]
  refine Sim.bind (ha W st s I F K).1 fun u ru W' st' h' tk I' S' R' => ?_
  show Sim prog w b₀ A (PySem.holding [ru] (eval r1 env) >>= fun rv => standAt pos >>= fun _ => PySem.holding [ru, rv] (compareOp (ckOp k1 false) ru rv) >>= fun c => release [ru, rv] [c] >>= fun _ => PySem.holding [c, rv] (truthy c) >>= fun t =>
   if t then testChain pos rv [ckOp k2 false] [eval r2 env] else pure false) _ _ _ _ _
  refine Sim.bind (Sim.holding (hb W' st' _ I' (F.step S') (K.step S')).1) fun u2 ru2 W2 st2 h2 tk2 I2 S2 R2 => Sim.at ?_
  refine cmp_first (f := fun c t => if t = true then testChain pos ru2 [ckOp k2 false] [eval r2 env] else pure false) G R I2 (R'.mono S2.le S2.grow) R2 fun b W3 st3 h3 tk3 I3 S3 => ?_
  cases b with
  | false => exact Sim.pure I3 rfl
  | true =>
   show Sim prog w b₀ A (PySem.holding [ru2] (eval r2 env) >>= fun rv => standAt pos >>= fun _ => PySem.operate [ru2, rv] (compareOp (ckOp k2 false) ru2 rv) >>= fun c => PySem.holding [c] (truthy c)) _ _ _ _ _
   exact Sim.bind (Sim.holding (hc W3 st3 _ I3 (((F.step S').step S2).step S3) (((K.step S').step S2).step S3)).1) fun u4 ru4 W4 st4 h4 tk4 I4 S4 R4 => Sim.at (cmp_test G R I4 ((R2.mono S3.le S3.grow).mono S4.le S4.grow) R4)
theorem ok_not {e : Expr} {pos : Pos} {m : M V × M Bool} (h : OkE prog w b₀ A sc inC env loc up e m) :
  OkE prog w b₀ A sc inC env loc up (.UnaryOp .Not e pos) (m.1.bind fun v => (truthV v).bind fun b => M.pure (.bool !b), m.2.bind fun b => M.pure !b) := by
 intro W st s I F K
 constructor
 ·rw [arm_eval_UnaryOp]
  exact Sim.bind (h W st s I F K).1 fun u ru W' st' h' tk I' S' R' => Sim.at (Sim.holding (sim_unot I' R'))
 ·rw [arm_isTrue_UnaryOp]
  exact Sim.bind (h W st s I F K).2 fun b rb W' st' h' tk I' S' R' => Sim.pure I' (congrArg (!·) R')
theorem ok_neg {e : Expr} {pos : Pos} {m : M V × M Bool} (h : OkE prog w b₀ A sc inC env loc up e m) :
  OkE prog w b₀ A sc inC env loc up (.UnaryOp .USub e pos) (trV (m.1.bind fun v => onO v.int? fun i => M.pure (.int (-i)))) := by
 refine OkE.tr rfl fun W st s I F K => ?_
 rw [arm_eval_UnaryOp]
 exact Sim.bind (h W st s I F K).1 fun u ru W' st' h' tk I' S' R' => Sim.at (Sim.holding (sim_neg I' R'))
theorem ok_ite {c x y : Expr} {pos : Pos} {m a b : M V × M Bool} (hc : OkE prog w b₀ A sc inC env loc up c m) (ha : OkE prog w b₀ A sc inC env loc up x a) (hb : OkE prog w b₀ A sc inC env loc up y b) :
  OkE prog w b₀ A sc inC env loc up (.IfExp c x y pos) (m.2.bind fun t => if t then a.1 else b.1, m.2.bind fun t => if t then a.2 else b.2) := by
 intro W st s I F K
 have br : ∀ {α β : Type} {Rl : Wd → Nat → α → β → Prop} {f : Bool → Sem β} {g : Bool → M α}, (∀ t W' st' h' tk, Inv prog w b₀ W' st' h' → Step (fAddrs A) W st s.heap W' st' h' → Sim prog w b₀ A (f t) W' st' ⟨h', s.gens, s.drawn, tk, s.os⟩ Rl (g t st')) →
   Sim prog w b₀ A (isTrue c env (eval c env) >>= f) W st s Rl ((m.2.bind g) st) := fun h =>
  Sim.bind (hc W st s I F K).2 fun t rt W' st' h' tk I' S' R' => by (obtain rfl := (R' : _ = _)); exact h t W' st' h' tk I' S'
 constructor
 ·rw [arm_eval_IfExp]
  refine br fun t W' st' h' tk I' S' => ?_
  cases t with
  | true => exact (ha W' st' _ I' (F.step S') (K.step S')).1
  | false => exact (hb W' st' _ I' (F.step S') (K.step S')).1
 ·rw [arm_isTrue_IfExp]
  refine br fun t W' st' h' tk I' S' => ?_
  cases t with
  | true => exact (ha W' st' _ I' (F.step S') (K.step S')).2
  | false => exact (hb W' st' _ I' (F.step S') (K.step S')).2
noncomputable def noStars (as : List Expr) : Bool := as.all fun e => !isStar e
theorem noStar_any {pos : Pos} {env : Env} {as : List Expr} (h : noStars as = true) : (backTo pos (starEach as env)).any (·.1) = false := by
 induction as with
 | nil => rfl
 | cons e r ih =>
  obtain ⟨h1, h2⟩ := andS h
  rw [starEach_plain ((Bool.not_eq_true' _).mp h1)]
  show (false || (backTo pos (starEach r env)).any (·.1)) = false
  rw [ih h2]; rfl
noncomputable def KeepOk (K : Frag) (f : Value) : Prop := ∀ (M : Model) (h : Heap), K.In h → ∃ k, (k = Keeper.frame ∨ k = Keeper.machine ∨ k = Keeper.boundFrame) ∧ Looks M h (keeperOf f) k
theorem KeepOk.builtin {id : String} : KeepOk K (.builtin id) := fun M h X => ⟨.machine, .inr (.inl rfl), Looks.of_pure rfl⟩
theorem KeepOk.type {id : String} : KeepOk K (.type id) := fun M h X => ⟨.machine, .inr (.inl rfl), Looks.of_pure rfl⟩
theorem KeepOk.ref {a : Addr} (e : keepIn K (.ref a) = true) : KeepOk K (.ref a) := fun M h X => keeps_K e h X
theorem keep_bi {b : BI} : KeepOk K (biVal b) := by cases b <;> first | exact KeepOk.builtin | exact KeepOk.type
theorem wp_evalArgs {as : List Expr} {f : Value} {pos : Pos} {Q : Args → Shared → Prop} {E : Value → Shared → Prop} {s : Shared} (hn : noStars as = true) (h : wpAny (model prog w) A (spliced (backTo pos (starEach as env))) (fun vs s' => Q ⟨vs, []⟩ s') E s) :
  wpAny (model prog w) A (evalArgs f true (backTo pos (starEach as env)) []) Q E s := by
 cases as with
 | nil =>
  unfold evalArgs
  refine wpAny_bind (wpAny_mono h (fun vs s' h' => ?_) fun _ _ x => x)
  refine wpAny_holding ?_
  exact wpAny_bind (wpAny_pure (wpAny_bind (wpAny_pure (wpAny_pure h'))))
 | cons e r =>
  rw [starEach_plain ((Bool.not_eq_true' _).mp (andS hn).1)] at h ⊢
  exact Calls.evalArgs_plain h
theorem sim_callWith (G : Gd w K b₀ mg mb) {f : Value} {first : List Value} {as : List Expr} {pos : Pos} {α : Type} {Rl : Wd → Nat → α → Value → Prop} {m : M (List V)} {g : List V → M α} (hk : KeepOk K f) (hn : noStars as = true) (h : OkEs prog w b₀ A sc inC env loc up as m)
  {W : Wd} {st : St} {s : Shared} (I : Inv prog w b₀ W st s.heap) (F : FR w W st.n env (cxOf sc inC) loc up s.heap) (Kk : SK A W st.n s.heap)
  (hc : ∀ vs rvs W' st' h' tk, Inv prog w b₀ W' st' h' → Step (fAddrs A) W st s.heap W' st' h' → SK A W' st'.n h' → RVs w.params W' st'.n vs rvs → Sim prog w b₀ A (PySem.call f (first ++ rvs)) W' st' ⟨h', s.gens, s.drawn, tk, s.os⟩ Rl (g vs st')) :
  Sim prog w b₀ A (callWith pos f first (backTo pos (starEach as env)) []) W st s Rl ((m.bind g) st) := by
 intro r st' e Q E hQ hE
 refine callWith_of (P := fun h => K.In h) (by rw [noStar_any hn]; rfl) (fun h X => hk _ h X) (wp_evalArgs hn ((h pos W st s I F Kk).go e (fun a b W₁ st₁ h₁ tk₁ I₁ S₁ R₁ e => ?_) hE))
 exact ⟨G.X.In I₁, hc a b W₁ st₁ h₁ tk₁ I₁ S₁ (Kk.step S₁) R₁ r st' e Q E (fun a' b' W₂ h₂ tk₂ hr I₂ S₂ R₂ => hQ a' b' W₂ h₂ tk₂ hr I₂ (S₁.trans I₁ S₂) R₂) fun c e' W₂ h₂ tk₂ hr X₂ => hE c e' W₂ h₂ tk₂ hr (S₁.transE I₁ X₂)⟩
theorem sim_callName (G : Gd w K b₀ mg mb) {f : Value} {x : Str} {np pos : Pos} {as : List Expr} {α : Type} {Rl : Wd → Nat → α → Value → Prop} {m : M (List V)} {g : List V → M α} (hx : isGlob sc x = true) (hf : gval K x = some f) (hne : x ≠ "__name__") (hk : KeepOk K f) (hn : noStars as = true)
  (h : OkEs prog w b₀ A sc inC env loc up as m)
  (hc : ∀ vs rvs W st s, Inv prog w b₀ W st s.heap → SK A W st.n s.heap → RVs w.params W st.n vs rvs → Sim prog w b₀ A (PySem.call f rvs) W st s Rl (g vs st)) :
  ∀ W st s, Inv prog w b₀ W st s.heap → FR w W st.n env (cxOf sc inC) loc up s.heap → SK A W st.n s.heap → Sim prog w b₀ A (eval (.Call (.Name x np) as [] pos) env) W st s Rl ((m.bind g) st) := by
 intro W st s I F K
 obtain ⟨gx, hd⟩ := isGlob_of (inC := inC) hx
 exact (sim_callWith (first := []) G hk hn h I F K fun vs rvs W' st' h' tk I' S' K' R' => hc vs rvs W' st' _ I' K' R').tree fun Q E x => wpAny_Call_ofName (wp_glob G.md I F gx hd (gval_GN G hf hne) x)
theorem ok_callF (G : Gd w K b₀ mg mb) (R : RB n q A) (HC : CallOk prog w b₀ call q n) {f : Addr} {x : Str} {np pos : Pos} {as : List Expr} {m : M (List V)} (hx : isGlob sc x = true) (hf : gfuns.any (fun p => decide (p.1 = x) && p.2 == f) = true) (hn : noStars as = true)
  (h : OkEs prog w b₀ A sc inC env loc up as m) : OkE prog w b₀ A sc inC env loc up (.Call (.Name x np) as [] pos) (trV (m.bind fun vs => call f vs)) := by
 obtain ⟨p, hm, hp⟩ := List.any_eq_true.mp hf
 obtain ⟨e1, e2⟩ := andS hp
 obtain rfl := (odt e1 : _ = _)
 obtain rfl := (beq_iff_eq.mp e2 : _ = _)
 obtain ⟨h1, h2⟩ := andS (List.all_eq_true.mp G.X.funs p hm)
 have hne : ∀ p ∈ gfuns, p.1 ≠ ("__name__" : Str) := by decide +kernel
 exact OkE.tr rfl (sim_callName G hx (beq_iff_eq.mp h1) (hne _ hm) (KeepOk.ref h2) hn h fun vs rvs W st s I K Rs => (HC p.2 vs rvs W st s A I K R.rm Rs).call)
theorem ok_new (G : Gd w K b₀ mg mb) (R : RB n q A) (HN : NewOk prog w b₀ call q n) {c : Nat} {x : Str} {np pos : Pos} {as : List Expr} {m : M (List V)} (hx : isGlob sc x = true) (hf : gclss.any (fun p => decide (p.1 = x) && p.2 == c) = true) (hn : noStars as = true)
  (h : OkEs prog w b₀ A sc inC env loc up as m) : OkE prog w b₀ A sc inC env loc up (.Call (.Name x np) as [] pos) (trV (m.bind fun vs => newV call c vs)) := by
 obtain ⟨p, hm, hp⟩ := List.any_eq_true.mp hf
 obtain ⟨e1, e2⟩ := andS hp
 obtain rfl := (odt e1 : _ = _)
 obtain rfl := (beq_iff_eq.mp e2 : _ = _)
 obtain ⟨h1, h2⟩ := andS (List.all_eq_true.mp G.X.gcls p hm)
 have hne : ∀ p ∈ gclss, p.1 ≠ ("__name__" : Str) ∧ p.2 < 6 := by decide +kernel
 exact OkE.tr rfl (sim_callName G hx (beq_iff_eq.mp h1) (hne _ hm).1 (KeepOk.ref h2) hn h fun vs rvs W st s I K Rs => (HN p.2 vs rvs W st s A (hne _ hm).2 I K R Rs).call)
theorem bi_name {x : Str} {v : Value} (h : gbis.any (fun p => decide (p.1 = x) && p.2 == v) = true) (X : KX K b₀) : gval K x = some v ∧ x ≠ "__name__" := by
 obtain ⟨p, hm, hp⟩ := List.any_eq_true.mp h
 obtain ⟨e1, e2⟩ := andS hp
 obtain rfl := (odt e1 : _ = _)
 obtain rfl := (beq_iff_eq.mp e2 : _ = _)
 have hne : ∀ p ∈ gbis, p.1 ≠ ("__name__" : Str) := by decide +kernel
 exact ⟨beq_iff_eq.mp (List.all_eq_true.mp X.bis p hm), hne p hm⟩
theorem ok_bi (G : Gd w K b₀ mg mb) (R : RB n q A) {b : BI} {x : Str} {np pos : Pos} {as : List Expr} {m : M (List V)} (hx : isGlob sc x = true) (hf : gbis.any (fun p => decide (p.1 = x) && p.2 == biVal b) = true) (hn : noStars as = true)
  (h : OkEs prog w b₀ A sc inC env loc up as m) : OkE prog w b₀ A sc inC env loc up (.Call (.Name x np) as [] pos) (trV (m.bind fun vs => biV q b vs)) := by
 obtain ⟨h1, h2⟩ := bi_name hf G.X
 exact OkE.tr rfl (sim_callName G hx h1 h2 keep_bi hn h fun vs rvs W st s I K Rs => sim_bi G.md.sm R.hd I Rs)
theorem ok_isin (G : Gd w K b₀ mg mb) {ty : Ty} {y : Str} {np yp pos : Pos} {a : Expr} {m : M V × M Bool} (hx : isGlob sc "isinstance" = true) (hy : isGlob sc y = true) (hf : gtys.any (fun p => decide (p.1 = y) && tyVal p.2 == tyVal ty) = true)
  (hs : isStar a = false) (h : OkE prog w b₀ A sc inC env loc up a m) :
  OkE prog w b₀ A sc inC env loc up (.Call (.Name "isinstance" np) [a, .Name y yp] [] pos) (boolV (m.1.bind fun v => isinV v ty)) := by
 obtain ⟨p, hm, hp⟩ := List.any_eq_true.mp hf
 obtain ⟨e1, e2⟩ := andS hp
 obtain rfl := (odt e1 : _ = _)
 have h1 := beq_iff_eq.mp (List.all_eq_true.mp G.X.tys p hm)
 rw [beq_iff_eq.mp e2] at h1
 have hne : ∀ p ∈ gtys, p.1 ≠ ("__name__" : Str) := by decide +kernel
 have hb : gbis.any (fun p => decide (p.1 = "isinstance") && p.2 == Value.builtin "isinstance") = true := by decide +kernel
 obtain ⟨g1, g2⟩ := bi_name hb G.X
 refine OkE.bl rfl fun W st s I F Kk r st' e Q E hQ hE => ?_
 obtain ⟨gx, hd⟩ := isGlob_of (inC := inC) hx
 obtain ⟨gy, hyd⟩ := isGlob_of (inC := inC) hy
 refine wpAny_Call_ofName (wp_glob G.md I F gx hd (gval_GN G g1 g2) ?_)
 have hns : noStars [a, Expr.Name p.1 yp] = true := by unfold noStars; rw [List.all_cons, hs]; rfl
 refine callWith_of (P := fun h => K.In h) (by rw [noStar_any hns]; rfl) (fun h X => KeepOk.builtin _ h X) (wp_evalArgs hns ?_)
 refine wpAny_items_cons ((h W st s I F Kk).1.go e (fun v rv W₁ st₁ h₁ tk₁ I₁ S₁ R₁ e => ?_) hE) (starEach_plain hs)
 refine wpAny_items_cons (wp_glob G.md I₁ (F.step S₁) gy hyd (gval_GN G h1 (hne _ hm)) (wpAny_items_nil ⟨G.X.In I₁, ?_⟩))
 exact sim_isin (s := ⟨h₁, s.gens, s.drawn, tk₁, s.os⟩) G.X I₁ R₁ r st' e Q E (fun a' b' W₂ h₂ tk₂ hr I₂ S₂ R₂ => hQ a' b' W₂ h₂ tk₂ hr I₂ (S₁.trans I₁ S₂) R₂) fun c e' W₂ h₂ tk₂ hr X₂ => hE c e' W₂ h₂ tk₂ hr (S₁.transE I₁ X₂)
end
theorem getm_bytes {prog : Program} {w : World} {A : Around} {E : Value → Shared → Prop} {s : Shared} {b : Array UInt8} {t : Tok} {pl : Sem Bool} {Q : Value × List Value → Shared → Prop} (hQ : Q (.builtin "bytes.startswith", [.bytes b t]) s) :
  wpAny (model prog w) A (getMethod (.bytes b t) "startswith" pl) Q E s := by
 have h1 : s.TypeIs (.bytes b t) "bytes" := PySem.W.typeIs_bytes _ _ _
 have h2 := FB.plainAttrs_bytes
 have h3 := (FB.slot_bytes_startswith : Slot "bytes" "startswith" "bytes.startswith")
 have h4 := FB.type_bytes_startswith
 exact getMethod_builtin (id := "bytes.startswith") (name := "startswith") h1 h2 h3 h4 (fun a e => by cases e) hQ
theorem meth_names : (meths.all fun p => (fieldsOf p.1).all fun f => !(fname f == methName p.2.1)) = true := by decide +kernel
theorem methOf_mem {c m : Nat} {a : Addr} (h : methOf c m = some a) : (c, m, a) ∈ meths := by
 obtain ⟨⟨p1, p2, p3⟩, hp, rfl⟩ := mapS h
 have e : (p1 == c && p2 == m) = true := List.find?_some (p := fun p : Nat × Nat × Addr => p.1 == c && p.2.1 == m) hp
 obtain ⟨e1, e2⟩ := andS e
 obtain rfl := (beq_iff_eq.mp e1 : _ = _)
 obtain rfl := (beq_iff_eq.mp e2 : _ = _)
 exact List.mem_of_find?_eq_some hp
theorem EntOk.out {P : Params} {x : Str} {es : List DictEntry} : ∀ {cs : List Nat}, EntOk P es cs → (cs.all fun f => !(fname f == x)) = true → getL x es = some none := by
 induction es with
 | nil => intro cs _ _; rfl
 | cons e es ih =>
  intro cs h hc
  obtain ⟨f, cs', t, rv, rfl, rfl, h⟩ := h
  obtain ⟨h1, h2⟩ := andS hc
  have ih := ih h h2
  unfold getL at ih ⊢
  rw [List.find?_cons, show (Value.str (fname f) t).isStr x = false from (Bool.not_eq_true' _).mp h1]
  exact ih
section
variable {prog : Program} {w : World} {b₀ : Heap} {K : Frag} {mg mb : Str → Option Value} {call : Addr → List V → M V} {q : Bool} {n : Nat} {A : Around}
variable {sc : Sc} {inC : Bool} {env : Env} {loc up : Loc}
theorem ok_tup {es : List Expr} {k : Nat} {pos : Pos} {m : M (List V)} (h : OkEs prog w b₀ A sc inC env loc up es m) : OkE prog w b₀ A sc inC env loc up (.Tuple es k pos) (trV (m.bind fun vs => onP (vs.length ≤ 1000) (M.pure (.tup vs)))) := by
 refine OkE.tr rfl fun W st s I F K => ?_
 rw [arm_eval_Tuple]
 exact Sim.at (Sim.bind (h pos W st s I F K) fun vs rvs W' st' h' tk I' S' R' => Sim.onP fun hz => sim_newTup I' R' fun Q E hQ => wpAny_newObj_type (hQ tk) (by show rvs.toArray.size ≤ sizeLine; rw [List.size_toArray, R'.length]; exact line_ten (by omega)))
theorem ok_lst {es : List Expr} {pos : Pos} {m : M (List V)} (h : OkEs prog w b₀ A sc inC env loc up es m) : OkE prog w b₀ A sc inC env loc up (.List es pos) (trV (m.bind fun vs => onP (vs.length ≤ 1000) (mPush (.list vs)))) := by
 refine OkE.tr rfl fun W st s I F K => ?_
 rw [arm_eval_List]
 exact Sim.at (Sim.bind (h pos W st s I F K) fun vs rvs W' st' h' tk I' S' R' => Sim.onP fun hz => sim_newList I' R' fun Q E hQ => wpAny_newObj_type (hQ tk) (by show rvs.toArray.size ≤ sizeLine; rw [List.size_toArray, R'.length]; exact line_ten (by omega)))
theorem DRel.nodict {W : Wd} {n : Nat} {h : Heap} {a : Addr} {es : List (DK × V)} (x : DRel prog w W n h a es) : ∀ b, Value.ref a = .ref b → ∃ o, h.get? b = some o ∧ o.dict = none := by
 intro b e
 cases e
 cases x with
 | s kvs hd hv => exact hd.mapOf.noDict _ rfl
 | i kvs hd hv => exact hd.mapOf.noDict _ rfl
 | p xs hd hv => obtain ⟨o, _, _, h1, h2, _⟩ := hd; exact ⟨o, h1, h2.2.1⟩
theorem ready_meth (sm : ∃ o, b₀.get? sysModules = some o) {W : Wd} {st : St} {s : Shared} {o : V} {ro : Value} {m : MK} {pl : Sem Bool} (I : Inv prog w b₀ W st s.heap) (Ro : RV w.params W st.n o ro) {Q : Value × List Value → Shared → Prop} {E : Value → Shared → Prop} (hQ : Q (.builtin (methId m), [ro]) s) {α : Type} {k : M α} {r : Except Nat α} {st' : St} (h : (readyV o m).bind (fun _ => k) st = some (r, st')) :
  k st = some (r, st') ∧ wpAny (model prog w) A (getMethod ro (bName m) pl) Q E s := by
 have onE : ∀ {γ : Type} {z : Option γ}, M.bind (onO z fun _ => M.pure ()) (fun _ => k) st = some (r, st') → ∃ x, z = some x ∧ k st = some (r, st') := by
  intro γ z h
  cases z with
  | none => exact noC h
  | some x => exact ⟨x, rfl, h⟩
 cases m with
 | get1 =>
  obtain ⟨p, hp, e⟩ := onE (z := dictR st o) h
  obtain ⟨_, rfl, D, _⟩ := dict_realR sm I Ro hp
  exact ⟨e, getMethod_builtin D.at F.plainAttrs_dict F.slot_dict_get F.type_dict_get D.nodict hQ⟩
 | get2 =>
  obtain ⟨p, hp, e⟩ := onE (z := dictR st o) h
  obtain ⟨_, rfl, D, _⟩ := dict_realR sm I Ro hp
  exact ⟨e, getMethod_builtin D.at F.plainAttrs_dict F.slot_dict_get F.type_dict_get D.nodict hQ⟩
 | append =>
  obtain ⟨p, hp, e⟩ := onE (z := slotL st o) h
  obtain ⟨rfl, hi, hf⟩ := slotL_real Ro hp
  obtain ⟨us, n, e1, Rs⟩ := slot_list I hi hf
  exact ⟨e, getMethod_builtin ⟨_, e1, rfl⟩ F.plainAttrs_list F.slot_list_append F.type_list_append (fun a e => by cases e; exact ⟨_, e1, rfl⟩) hQ⟩
 | pop =>
  obtain ⟨p, hp, e⟩ := onE (z := slotL st o) h
  obtain ⟨rfl, hi, hf⟩ := slotL_real Ro hp
  obtain ⟨us, n, e1, Rs⟩ := slot_list I hi hf
  exact ⟨e, getMethod_builtin ⟨_, e1, rfl⟩ F.plainAttrs_list F.slot_list_pop F.type_list_pop (fun a e => by cases e; exact ⟨_, e1, rfl⟩) hQ⟩
 | index =>
  obtain ⟨xs, hx, e⟩ := onE h
  obtain ⟨a, vs, k', rfl, h1, _⟩ := Ro.ofTup hx
  have g := I.sub _ _ h1
  exact ⟨e, getMethod_builtin ⟨_, g, rfl⟩ F.plainAttrs_tuple F.slot_tuple_index F.type_tuple_index (fun a e => by cases e; exact ⟨_, g, rfl⟩) hQ⟩
 | join =>
  obtain ⟨x, hx, e⟩ := onE h
  obtain ⟨t, rfl⟩ := Ro.ofStr hx
  exact ⟨e, getMethod_builtin (v := .str x t) (T := "str") (typeIs_str _ _ _) F.plainAttrs_str F.slot_str_join F.type_str_join (fun a e => by cases e) hQ⟩
 | count =>
  obtain ⟨x, hx, e⟩ := onE h
  obtain ⟨t, rfl⟩ := Ro.ofStr hx
  exact ⟨e, getMethod_builtin (v := .str x t) (T := "str") (typeIs_str _ _ _) F.plainAttrs_str F.slot_str_count F.type_str_count (fun a e => by cases e) hQ⟩
 | starts =>
  obtain ⟨x, hx, e⟩ := onE h
  obtain ⟨t, rfl, _⟩ := Ro.ofBytes hx
  exact ⟨e, getm_bytes hQ⟩
theorem meth_form {o : Expr} {x : Str} {ap pos : Pos} {as : List Expr} {rov : Value} (hl : (ap.endLine == pos.line) = true) (hlen : plainLen as = true) (hn : noStars as = true) :
  methodCall o x ap pos env rov (as.length + ([] : List Keyword).length) (backTo pos (starEach as env)) (backToKw pos (keywordEach [] env)) =
   (PySem.holding [rov] (getMethod rov x (do return (← importBound o env).getD true)) >>= fun fx => callWith pos fx.1 fx.2 (backTo pos (starEach as env)) []) := by
 have hform : methodCallForm (as.length + ([] : List Keyword).length) (backTo pos (starEach as env)) (backToKw pos (keywordEach [] env)) = true := by
  unfold methodCallForm
  have e1 : (backTo pos (starEach as env)).all (fun x => !x.1) = true := by
   rw [List.all_eq_not_any_not]
   simp only [Bool.not_not]
   rw [noStar_any hn]; rfl
  rw [e1]
  show (true && true && decide (as.length + 0 + 0 < 30)) = true
  exact hlen
 have hpos : methodCallPos true o env ap pos = pure pos := by unfold methodCallPos; rw [hl]; rfl
 unfold methodCall
 rw [hform, hpos]
 rfl
theorem ok_callB (G : Gd w K b₀ mg mb) (R : RB n q A) {m : MK} {o : Expr} {ap pos : Pos} {as : List Expr} {mo : M V × M Bool} {ma : M (List V)} (hl : (ap.endLine == pos.line) = true) (hs : notSuper o = true) (hlen : plainLen as = true) (hn : noStars as = true)
  (ho : OkE prog w b₀ A sc inC env loc up o mo) (ha : OkEs prog w b₀ A sc inC env loc up as ma) :
  OkE prog w b₀ A sc inC env loc up (.Call (.Attribute o (bName m) ap) as [] pos) (trV (mo.1.bind fun ov => (readyV ov m).bind fun _ => ma.bind fun vs => methV ov m vs)) := by
 refine OkE.tr rfl fun W st s I F K => ?_
 rw [arm_eval_Call, base_plain hs]
 refine Sim.bind (ho W st s I F K).1 fun ov rov W' st' h' tk I' S' R' => Sim.at ?_
 rw [meth_form hl hlen hn]
 intro r st2 e Q E hQ hE
 have x := sim_callWith (first := [rov]) (pos := pos) (g := fun vs => methV ov m vs) (f := .builtin (methId m)) (s := ⟨h', s.gens, s.drawn, tk, s.os⟩) G KeepOk.builtin hn ha I' (F.step S') (K.step S') fun vs rvs W2 st2 h2 tk2 I2 S2 K2 R2 =>
  sim_meth (s := ⟨h2, s.gens, s.drawn, tk2, s.os⟩) G.md.sm R.u I2 (R'.mono S2.le S2.grow) R2
 refine wpAny_bind (wpAny_holding (ready_meth (s := ⟨h', s.gens, s.drawn, tk, s.os⟩) G.md.sm I' R' (x r st2 ?_ Q E hQ hE) e).2)
 exact (ready_meth (prog := prog) (A := A) (pl := pure true) (Q := fun _ _ => True) (E := E) (s := ⟨h', s.gens, s.drawn, tk, s.os⟩) G.md.sm I' R' trivial e).1
theorem ok_callO (G : Gd w K b₀ mg mb) (R : RB n q A) (HC : CallOk prog w b₀ call q n) {c m : Nat} {o : Expr} {ap pos : Pos} {as : List Expr} {mo : M V × M Bool} {ma : M (List V)} (hl : (ap.endLine == pos.line) = true) (hs : notSuper o = true) (hlen : plainLen as = true) (hn : noStars as = true)
  (ho : OkE prog w b₀ A sc inC env loc up o mo) (ha : OkEs prog w b₀ A sc inC env loc up as ma) :
  OkE prog w b₀ A sc inC env loc up (.Call (.Attribute o (methName m) ap) as [] pos) (trV (mo.1.bind fun ov => onO ov.obj? fun p => onP (p.1 = c) (onO (methOf c m) fun a => ma.bind fun vs => call a (ov :: vs)))) := by
 refine OkE.tr rfl fun W st s I F Kk => ?_
 rw [arm_eval_Call, base_plain hs]
 refine Sim.bind (ho W st s I F Kk).1 fun ov rov W' st' h' tk I' S' R' => Sim.at ?_
 rw [meth_form hl hlen hn]
 refine Sim.onO fun p hp => Sim.onP fun hc => Sim.onO fun f hm => ?_
 subst hc
 obtain ⟨a, d, es, k, rfl, h1, h2, h3, h4⟩ := R'.ofObj hp
 have mem := methOf_mem hm
 have g := List.all_eq_true.mp G.X.mth _ mem
 simp only [methOk, Bool.and_eq_true, beq_iff_eq] at g
 have I2 := instAt_obj (I'.sub _ _ h1) (I'.sub _ _ h2)
 have x := sim_callWith (first := [.ref a]) (pos := pos) (g := fun vs => call f (ov :: vs)) (f := .ref f) (s := ⟨h', s.gens, s.drawn, tk, s.os⟩) G (KeepOk.ref g.2.2.2) hn ha I' (F.step S') (Kk.step S') fun vs rvs W2 st2 h2 tk2 I2 S2 K2 R2 =>
  (HC f (ov :: vs) (.ref a :: rvs) W2 st2 ⟨h2, s.gens, s.drawn, tk2, s.os⟩ A I2 K2 R.rm ⟨_, _, rfl, R'.mono S2.le S2.grow, R2⟩).call
 refine x.tree fun Q E hx => wpAny_bind (wpAny_holding ?_)
 refine method_fn (s := ⟨h', s.gens, s.drawn, tk, s.os⟩) (G.X.In I') I2 (plainGet_of g.1).1 (plainGet_of g.1).2 g.2.1 (beq_iff_eq.mp g.2.2.1) ?_ hx
 show (lookIn (methName m) (dictOf es k)).map _ = _
 rw [lookIn_dict, h3.out (List.all_eq_true.mp meth_names _ mem)]; rfl
end
section
variable {prog : Program} {w : World} {b₀ : Heap} {K : Frag} {mg mb : Str → Option Value} {call : Addr → List V → M V} {q : Bool} {n : Nat} {A : Around}
variable {sc : Sc} {inC : Bool} {env : Env} {loc up : Loc}
theorem ok_bool1 {x y : Expr} {rest : List Expr} {pos : Pos} {m : M V × M Bool} {k : M V} (h : OkE prog w b₀ A sc inC env loc up x m) {W : Wd} {st : St} {s : Shared} (I : Inv prog w b₀ W st s.heap) (F : FR w W st.n env (cxOf sc inC) loc up s.heap) (K : SK A W st.n s.heap) {op : BoolOp}
  (hr : ∀ W st s, Inv prog w b₀ W st s.heap → FR w W st.n env (cxOf sc inC) loc up s.heap → SK A W st.n s.heap → Sim prog w b₀ A (boolOp pos op (evalEach (y :: rest) env)) W st s (RlV w) (k st)) :
  Sim prog w b₀ A (boolOp pos op (evalEach (x :: y :: rest) env)) W st s (RlV w) ((m.1.bind fun v => (truthV v).bind fun t => match op, t with | .And, true => k | .Or, false => k | _, _ => M.pure v) st) := by
 show Sim prog w b₀ A (eval x env >>= fun v => standAt pos >>= fun _ => PySem.holding [v] (truthy v) >>= fun t => match op, t with
  | .And, false | .Or, true => pure v
  | _, _ => boolOp pos op (evalEach (y :: rest) env)) W st s (RlV w) _
 refine Sim.bind (h W st s I F K).1 fun v rv W' st' h' tk I' S' R' => Sim.at ?_
 refine Sim.bind (Rl := RlB) (Sim.holding (sim_truth I' R')) fun b rb W2 st2 h2 tk2 I2 S2 R2 => ?_
 obtain rfl := (R2 : _ = _)
 have Rv := R'.mono S2.le S2.grow
 cases op <;> (first | exact nfC b | cases b)
 ·exact Sim.pure I2 Rv
 ·exact hr W2 st2 _ I2 ((F.step S').step S2) ((K.step S').step S2)
 ·exact hr W2 st2 _ I2 ((F.step S').step S2) ((K.step S').step S2)
 ·exact Sim.pure I2 Rv
inductive OkL (prog : Program) (w : World) (b₀ : Heap) (A : Around) (sc : Sc) (inC : Bool) (env : Env) (loc up : Loc) : List Expr → M (List V) → Prop
 | nil : OkL prog w b₀ A sc inC env loc up [] (M.pure [])
 | cons {e : Expr} {es : List Expr} {m : M V × M Bool} {ms : M (List V)} : isStar e = false → OkE prog w b₀ A sc inC env loc up e m → OkL prog w b₀ A sc inC env loc up es ms →
   OkL prog w b₀ A sc inC env loc up (e :: es) (m.1.bind fun v => ms.bind fun vs => M.pure (v :: vs))
theorem OkL.es {es : List Expr} {m : M (List V)} (x : OkL prog w b₀ A sc inC env loc up es m) : OkEs prog w b₀ A sc inC env loc up es m ∧ noStars es = true := by
 induction x with
 | nil => exact ⟨OkEs.nil, rfl⟩
 | cons hs h _ ih => exact ⟨OkEs.cons hs h ih.1, by unfold noStars; rw [List.all_cons, hs]; exact ih.2⟩
theorem Inv.adopt {F : List Addr} {W W' : Wd} {st st' : St} {h h1 h2 : Heap} {d : Addr} {ob : Ob} (I : Inv prog w b₀ W' st' h1) (ho : ¬ Owned W' st'.n d) (hB : W'.B d = none) (hs : Heap.SameBut d h1 h2) (hd : ∃ o, h2.get? d = some o)
  (hr : ROb prog w (W'.slot st'.n d d) (st'.n + 1) h2 st'.n ob) (S : Step F W st h W' st' h1) (hn : h.get? d = none) :
  Inv prog w b₀ (W'.slot st'.n d d) (st'.push ob) h2 ∧ Step F W st h (W'.slot st'.n d d) (st'.push ob) h2 := by
 have I2 := I.touch ho hB hs.extBut
 have L : W'.Le (W'.slot st'.n d d) st'.n := W'.le_slot
 have ne : ∀ i, i < st'.n → W'.ρ i ≠ d ∧ W'.σ i ≠ d := fun i hi => ⟨fun q => ho ⟨i, hi, .inl q.symm⟩, fun q => ho ⟨i, hi, .inr q.symm⟩⟩
 refine ⟨⟨I2.base, I2.sub, fun i hi => ?_, fun i hi hg => ?_, fun i j hi hj hij => ?_, fun i hi => ?_⟩, Nat.le_succ_of_le S.grow, S.le.trans L S.grow, fun i h1 h2 => ?_, S.newB, fun a o e hno hf => ?_, fun a o e hno => ?_⟩
 ·by_cases q : i = st'.n
  ·subst q; rw [St.push_n]; exact hr
  ·have hl : i < st'.n := Nat.lt_of_le_of_ne (Nat.le_of_lt_succ hi) q
   rw [St.push_f hl]
   exact (I2.own i hl).keep L (Nat.le_succ _) hl (fun _ _ _ e => e) fun b o' e => ⟨I2.sub b o' e, I2.sub b o' e⟩
 ·by_cases q : i = st'.n
  ·subst q; rw [Wd.slot_ρ, Wd.slot_σ]; exact ⟨hB, hB⟩
  ·have hl : i < st'.n := Nat.lt_of_le_of_ne (Nat.le_of_lt_succ hi) q
   rw [(L.1 i hl).1, (L.1 i hl).2]; rw [St.push_f hl] at hg; exact I2.apart i hl hg
 ·by_cases q : i = st'.n
  ·have hl : j < st'.n := Nat.lt_of_le_of_ne (Nat.le_of_lt_succ hj) fun q' => hij (q.trans q'.symm)
   subst q
   rw [Wd.slot_ρ, Wd.slot_σ, (L.1 j hl).1, (L.1 j hl).2]
   exact ⟨(ne j hl).1.symm, (ne j hl).2.symm, (ne j hl).2.symm⟩
  ·have hli : i < st'.n := Nat.lt_of_le_of_ne (Nat.le_of_lt_succ hi) q
   by_cases q' : j = st'.n
   ·subst q'
    rw [Wd.slot_ρ, Wd.slot_σ, (L.1 i hli).1, (L.1 i hli).2]
    exact ⟨(ne i hli).1, (ne i hli).1, (ne i hli).2⟩
   ·have hlj : j < st'.n := Nat.lt_of_le_of_ne (Nat.le_of_lt_succ hj) q'
    rw [(L.1 i hli).1, (L.1 i hli).2, (L.1 j hlj).1, (L.1 j hlj).2]; exact I2.inj i j hli hlj hij
 ·by_cases q : i = st'.n
  ·subst q; rw [Wd.slot_ρ, Wd.slot_σ]; exact ⟨hd, hd⟩
  ·have hl : i < st'.n := Nat.lt_of_le_of_ne (Nat.le_of_lt_succ hi) q
   rw [(L.1 i hl).1, (L.1 i hl).2]; exact I2.live i hl
 ·by_cases q : i = st'.n
  ·subst q; rw [Wd.slot_ρ, Wd.slot_σ]; exact ⟨hn, hn⟩
  ·have hl : i < st'.n := Nat.lt_of_le_of_ne (Nat.le_of_lt_succ h2) q
   rw [(L.1 i hl).1, (L.1 i hl).2]; exact S.fresh i h1 hl
 ·exact (hs.2 a fun q => by rw [q, hn] at e; (exact noC e)).trans (S.exact a o e hno hf)
 ·obtain ⟨sl, q⟩ := S.slots a o e hno
  exact ⟨sl, (hs.2 a fun q => by rw [q, hn] at e; (exact noC e)).trans q⟩
noncomputable def RlKV {K : Type} [DecidableEq K] (w : World) (knd : KeyKind prog w K) (ks : List K) : Wd → Nat → List V → List (Value × Value) → Prop := fun W n vs kvs => ∃ rvs : List Value, rvs.length = ks.length ∧ Carries knd kvs (ks.zip rvs) ∧ RVs w.params W n vs rvs
noncomputable def KeysOk {K : Type} [DecidableEq K] (knd : KeyKind prog w K) (f : K → DK) (A : Around) (env : Env) : Prop := ∀ (k : K) (e : Expr), chkDK (f k) e = true → ∀ (Q : Value → Shared → Prop) (E : Value → Shared → Prop) (s : Shared), (∀ key tk, knd.is k key = true → Q key { s with toks := tk }) → wpAny (model prog w) A (eval e env) Q E s
theorem sim_pairs {K : Type} [DecidableEq K] {knd : KeyKind prog w K} {f : K → DK} (hk : KeysOk knd f A env) {pos : Pos} {values : List Expr} {m : M (List V)}
  (x : OkL prog w b₀ A sc inC env loc up values m) : ∀ (ks : List K) (keys : List (Option Expr)), chkDKs (ks.map f) keys = true → keys.length = values.length → ∀ W st s, Inv prog w b₀ W st s.heap → FR w W st.n env (cxOf sc inC) loc up s.heap → SK A W st.n s.heap →
   Sim prog w b₀ A (evalPairs (pairTrees keys values env pos)) W st s (RlKV w knd ks) (m st) := by
 induction x with
 | nil =>
  intro ks keys hc hl W st s I F K
  cases keys with
  | cons _ _ => cases hl
  | nil =>
   cases ks with
   | cons _ _ => exact nfC hc
   | nil => exact Sim.rule fun Q E hQ => pairTrees_nil_walk (hQ [] W s.heap s.toks I (.refl _ _ _) ⟨[], rfl, trivial, rfl⟩)
 | @cons e es me ms hs h r ih =>
  intro ks keys hc hl W st s I F K
  cases keys with
  | nil => cases hl
  | cons ko keys =>
   cases ks with
   | nil => exact nfC hc
   | cons k ks =>
    obtain ⟨hc1, hc2⟩ := andS hc
    cases ko with
    | none => exact nfC hc1
    | some ke =>
     intro r st' eq Q E hQ hE
     refine pairTrees_cons_walk (hk k ke hc1 _ E s fun key tk hkey => (h W st { s with toks := tk } I F K).1.go eq (fun v rv W1 st1 h1 tk1 I1 S1 R1 eq => ?_) hE)
     refine (ih ks keys hc2 (Nat.succ.inj hl) W1 st1 ⟨h1, s.gens, s.drawn, tk1, s.os⟩ I1 (F.step S1) (K.step S1)).go eq (fun vs kvs W2 st2 h2 tk2 I2 S2 R2 eq => ?_) fun c ex W2 h2 tk2 hr X2 => hE c ex W2 h2 tk2 hr (S1.transE I1 X2)
     obtain ⟨rfl, rfl⟩ := inj2 eq
     obtain ⟨rvs, e1, e2, e3⟩ := R2
     exact hQ _ _ W2 h2 tk2 rfl I2 (S1.trans I1 S2) ⟨rv :: rvs, congrArg (· + 1) e1, ⟨hkey, rfl, e2⟩, rv, rvs, rfl, R1.mono S2.le S2.grow, e3⟩
theorem DP.zip {P : Params} {W : Wd} {n : Nat} {K : Type} {f : K → DK} {ks : List K} : ∀ {vs : List V} {rvs : List Value}, RVs P W n vs rvs → ks.length = vs.length → DP P W n f ((ks.map f).zip vs) (ks.zip rvs) := by
 induction ks with
 | nil => intro vs rvs _ _; rfl
 | cons k ks ih =>
  intro vs rvs h hl
  cases vs with
  | nil => cases hl
  | cons v vs => obtain ⟨r, rs, rfl, h1, h2⟩ := h; exact ⟨k, r, _, rfl, rfl, h1, ih h2 (Nat.succ.inj hl)⟩
theorem not_owned_fresh {W : Wd} {st : St} {h : Heap} {d : Addr} (I : Inv prog w b₀ W st h) (hn : h.get? d = none) : ¬ Owned W st.n d ∧ W.B d = none := by
 refine ⟨fun ⟨i, hi, h1⟩ => ?_, ?_⟩
 ·obtain ⟨⟨o1, l1⟩, ⟨o2, l2⟩⟩ := I.live i hi
  rcases h1 with rfl | rfl
  ·rw [hn] at l1; exact noC l1
  ·rw [hn] at l2; exact noC l2
 ·cases q : W.B d with
  | none => rfl
  | some o => have := I.sub d o q; rw [hn] at this; exact noC this
theorem chk_len : ∀ {a : List DK} {b : List (Option Expr)}, chkDKs a b = true → a.length = b.length ∧ b.all (·.isSome) = true := by
 intro a
 induction a with
 | nil => intro b h; cases b <;> first | exact ⟨rfl, rfl⟩ | (exact nfC h)
 | cons k a ih =>
  intro b h
  cases b with
  | nil => exact nfC h
  | cons o b =>
   obtain ⟨h1, h2⟩ := andS h
   cases o with
   | none => exact nfC h1
   | some e => exact ⟨congrArg (· + 1) (ih h2).1, (ih h2).2⟩
theorem ok_dctK {K : Type} [DecidableEq K] {knd : KeyKind prog w K} {f : K → DK} (hr : ∀ W n h a es kvs, h.DictOf knd a kvs → DP w.params W n f es kvs → DRel prog w W n h a es)
  (hk : KeysOk knd f A env) {pos : Pos} {values : List Expr} {m : M (List V)} (x : OkL prog w b₀ A sc inC env loc up values m) (ks : List K) (keys : List (Option Expr)) (hc : chkDKs (ks.map f) keys = true) (hl : keys.length = values.length) (hlen : keys.length ≤ 15) :
  ∀ W st s, Inv prog w b₀ W st s.heap → FR w W st.n env (cxOf sc inC) loc up s.heap → SK A W st.n s.heap → Sim prog w b₀ A (eval (.Dict keys values pos) env) W st s (RlV w) ((m.bind fun vs => dctV (ks.map f) vs) st) := by
 intro W st s I F K r st' eq Q E hQ hE
 have hn : s.heap.get? s.heap.objs.size = none := Heap.get?_none_of_le (Nat.le_refl _)
 have hp : (s.heap.push { cls := .type "dict", data := .dict #[] }).get? s.heap.objs.size = some { cls := .type "dict", data := .dict #[] } := Heap.get?_push_size _ rfl
 have kp : ∀ b o, s.heap.get? b = some o → (s.heap.push { cls := .type "dict", data := .dict #[] }).get? b = some o := fun b o e => Heap.get?_push_of_some _ e
 by_cases h0 : keys = []
 ·subst h0
  cases values with
  | cons _ _ => cases hl
  | nil =>
   cases ks with
   | cons _ _ => exact nfC hc
   | nil =>
    cases x
    replace eq : dctV [] [] st = some (r, st') := eq
    obtain ⟨hz, eq⟩ := onP_some eq
    obtain ⟨rfl, rfl⟩ := inj2 eq
    obtain ⟨W', I', S', R'⟩ := newDict_at (A := A) (es := []) I kp hn (hr _ _ _ _ _ [] (Heap.DictOf.new _) rfl)
    exact wpAny_Dict_empty (hQ _ _ W' _ s.toks rfl I' S' R')
 ·have no := not_owned_fresh I hn
  have S0 : Step (fAddrs A) W st s.heap W st (s.heap.push { cls := .type "dict", data := .dict #[] }) := .of_kept kp
  have I0 := I.kept kp
  obtain ⟨hks, hsome⟩ := chk_len hc
  rw [List.length_map] at hks
  refine wpAny_Dict_walk (knd := knd) hsome hl h0 hlen ((sim_pairs hk x ks keys hc hl W st ⟨s.heap.push { cls := .type "dict", data := .dict #[] }, s.gens, s.drawn, s.toks, s.os⟩ I0 (F.step S0) (K.step S0)).go eq (fun vs kvs W1 st1 h1 tk1 I1 S1 R1 eq => ?_) fun c ex W1 h1 tk1 hr X1 => hE c ex W1 h1 tk1 hr (S0.transE I0 X1))
  obtain ⟨hz, eq⟩ := onP_some eq
  obtain ⟨rfl, rfl⟩ := inj2 eq
  obtain ⟨rvs, e1, e2, e3⟩ := R1
  have hnd : (ks.zip rvs).map (·.1) = ks := by rw [List.map_fst_zip]; omega
  have hmer : merged [] (ks.zip rvs) = ks.zip rvs := merged_append_of_fresh [] (ks.zip rvs) (by rw [List.nil_append, hnd]; exact (List.pairwise_map.mp hz.2.1).imp fun h q => h (by rw [q]))
  have hd1 := S1.exact _ _ hp no.1 (.inl fun q => by
   obtain ⟨env', he', hf'⟩ := List.mem_filterMap.mp q
   obtain ⟨_, L, hfL, ⟨o, ho, _⟩, _⟩ := K.fr env' he'
   rw [hf'] at hfL; obtain rfl := inj1 hfL
   rw [hn] at ho; (exact noC ho))
  refine ⟨ks.zip rvs, e2, ⟨_, #[], _, hd1, ⟨rfl, rfl, rfl⟩, rfl, fun e he => by simp at he, .nil, .nil⟩, fun h2 hd2 hs2 => ?_⟩
  rw [hmer] at hd2
  have hl3 := e3.length
  rw [List.length_map] at hz
  obtain ⟨I', S'⟩ := I1.adopt (d := s.heap.objs.size) (ob := .dict ((ks.map f).zip vs)) (S1.notOwned hp no.1) (S1.notB hp no.1 no.2) hs2 (let ⟨o, _, _, q, _⟩ := hd2; ⟨o, q⟩) (show DRel prog w _ _ _ _ _ by rw [Wd.slot_ρ]; exact hr _ _ _ _ _ _ hd2 ((DP.zip e3 hz.1).mono W1.le_slot (Nat.le_succ _))) (S0.trans I0 S1) hn
  exact hQ _ _ _ h2 _ rfl I' S' ⟨by rw [Wd.slot_ρ], lts _⟩
theorem keys_s : KeysOk (PySem.strKind prog w) DK.s A env := by
 intro k e h Q E s hQ
 obtain ⟨c, hc, g⟩ := any_some h
 obtain ⟨q, rfl⟩ := xCon_of hc
 cases c <;> first | (cases odt g; done) | (cases odt g; exact Calls.Constant_str (hQ _ _ (str_is _ _)))
theorem keys_i : KeysOk (PySem.intKind prog w) DK.i A env := by
 intro k e h Q E s hQ
 obtain ⟨c, hc, g⟩ := any_some h
 obtain ⟨q, rfl⟩ := xCon_of hc
 cases c <;> first | (cases odt g; done) | (cases odt g; exact wpAny_Constant_int (hQ _ _ (int_is _ _)))
theorem all_s {ks : List DK} (h : ks.all DK.isS = true) : ∃ l : List Str, ks = l.map DK.s := by
 induction ks with
 | nil => exact ⟨[], rfl⟩
 | cons k r ih =>
  obtain ⟨h1, h2⟩ := andS h
  obtain ⟨l, rfl⟩ := ih h2
  cases k <;> first | (first | exact nfC h1 | cases h1) | skip
  exact ⟨_ :: l, rfl⟩
theorem all_i {ks : List DK} (h : ks.all DK.isI = true) : ∃ l : List Int, ks = l.map DK.i := by
 induction ks with
 | nil => exact ⟨[], rfl⟩
 | cons k r ih =>
  obtain ⟨h1, h2⟩ := andS h
  obtain ⟨l, rfl⟩ := ih h2
  cases k <;> first | (first | exact nfC h1 | cases h1) | skip
  exact ⟨_ :: l, rfl⟩
theorem ok_dct {pos : Pos} {values : List Expr} {m : M (List V)} (x : OkL prog w b₀ A sc inC env loc up values m) (ks : List DK) (keys : List (Option Expr)) (hc : chkDKs ks keys = true) (hl : keys.length = values.length) (hlen : keys.length ≤ 15) (hk : (ks.all DK.isS || ks.all DK.isI) = true) :
  OkE prog w b₀ A sc inC env loc up (.Dict keys values pos) (trV (m.bind fun vs => dctV ks vs)) := by
 refine OkE.tr rfl ?_
 rcases Bool.or_eq_true_iff.mp hk with h | h
 ·obtain ⟨l, rfl⟩ := all_s h
  exact ok_dctK (fun W n h a es kvs hd hv => .s kvs hd hv) keys_s x l keys hc hl hlen
 ·obtain ⟨l, rfl⟩ := all_i h
  exact ok_dctK (fun W n h a es kvs hd hv => .i kvs hd hv) keys_i x l keys hc hl hlen
end
theorem entry_unchain : entryFor table "proto.unchain" = some Builtin.«proto.unchain» := entryFor_of_tree (by kernel_rfl)
section
variable {prog : Program} {w : World} {A : Around} {E : Value → Shared → Prop} {s : Shared}
theorem raise_new {α : Type} {a : Addr} {o : Obj} {vs : Array Value} {Q : α → Shared → Prop} (hd : HdOk A s.heap) (ho : s.heap.get? a = some o) (hf : o.data = .fields vs) (hz : 2 < vs.size)
  (hE : ∀ h', Heap.SameBut a s.heap h' → (∃ o', h'.get? a = some o' ∧ o'.cls = o.cls) → E (.ref a) { s with heap := h' }) : wpAny (model prog w) A (raiseNew (.ref a) : Sem α) Q E s := by
 unfold raiseNew
 refine wpAny_bind (wpAny_handled ?_)
 cases hh : A.handled with
 | none => exact wpAny_bind (wpAny_pure (wpAny_throw (hE s.heap (Heap.SameBut.refl ..) ⟨o, ho, rfl⟩)))
 | some e =>
  obtain ⟨ea, oe, ws, rfl, he, hef, h2⟩ := hd e hh
  dsimp only
  refine wpAny_ite_split (fun hne => ?_) (fun hne => ?_)
  ·refine wpAny_bind (wpAny_holding (wpAny_runValue (codeAny_builtin entry_unchain ?_)))
   unfold Builtin.«proto.unchain»
   show wpAny _ _ (field (.ref ea) 2 >>= _) _ _ s
   refine wpAny_bind (wpAny_field he hef h2 ?_)
   rw [if_pos (by decide)]
   refine wpAny_bind (wpAny_pure ?_)
   refine wpAny_pure ?_
   show wpAny _ _ (updateField a 2 (.ref ea) >>= fun _ => throw (.ref a)) _ _ s
   have key := Heap.get?_update_self (Obj.mapFields (·.setIfInBounds 2 (Value.ref ea))) ho (Obj.isFreed_of_fields (Obj.data_mapFields hf _))
   unfold updateField
   refine wpAny_bind (wpAny_bind (wpAny_load ho ?_))
   rw [hf]
   dsimp only
   rw [if_pos hz]
   refine wpAny_update ho (wpAny_throw (hE _ (Heap.SameBut.update ..) ⟨_, key, Obj.cls_mapFields ..⟩))
  ·exact wpAny_bind (wpAny_pure (wpAny_throw (hE s.heap (Heap.SameBut.refl ..) ⟨o, ho, rfl⟩)))
theorem HdOk.ext {h h' : Heap} {x : Addr} (K : HdOk A h) (hk : Heap.ExtBut x h h') (h1 : A.handled ≠ some (.ref x)) : HdOk A h' := fun e he => by
 obtain ⟨ea, o, vs, rfl, ho, hd, h2⟩ := K e he
 exact ⟨ea, o, vs, rfl, hk _ _ (fun q => h1 (q ▸ he)) ho, hd, h2⟩
theorem HdOk.fresh {h : Heap} {x : Addr} (K : HdOk A h) (hx : h.get? x = none) : A.handled ≠ some (.ref x) := fun q => by
 obtain ⟨ea, o, vs, e, ho, _⟩ := K _ q
 cases e; rw [hx] at ho; exact noC ho
theorem tuple_end {it t : Addr} {i : Nat} {items} {Q : Option Value → Shared → Prop} (hh : HdOk A s.heap) (hne : A.handled ≠ some (.ref it))
  (hit : s.heap.IsTupleIter it t i) (ht : s.heap.IsTuple t items) (hx : items[i]? = none)
  (hQ : ∀ h', Heap.ExtBut it s.heap h' → Q none { s with heap := h' }) : wpAny (model prog w) A (pyNext (.ref it)) Q E s := by
 obtain ⟨o, ho, hc, hd⟩ := id hit
 obtain ⟨ol, hol, _, nl, hdl⟩ := ht
 unfold pyNext
 refine wpAny_bind (wpAny_attempt (wpAny_callSpecial?_slot (name := Str.ofString "__next__") hit.typeIs F.slot_tuple_iterator_next
  (wpAny_call_entry F.slot_tuple_iterator_next hit.typeIs F.entry_tuple_iterator_next ?_ (F.args_tuple_iterator_next_1 _))))
 show wpAny _ _ (field (.ref it) 0 >>= _) _ _ s
 refine wpAny_bind (wpAny_field ho hd (x := .ref t) rfl ?_)
 show wpAny _ _ (if (Value.ref t == Value.none) = true then _ else _) _ _ s
 rw [if_neg (show ¬ ((Value.ref t == Value.none) = true) from Bool.false_ne_true)]
 show wpAny _ _ (field (.ref it) 1 >>= _) _ _ s
 refine wpAny_bind (wpAny_field ho hd (x := .int i 0) rfl ?_)
 show wpAny _ _ (seqItems? (.ref t) >>= _) _ _ s
 refine wpAny_bind (wpAny_seqItems hol hdl ?_)
 simp only [Int.toNat_natCast, hx]
 refine wpAny_bind (wpAny_rule (wpAny_bind (wpAny_setField ho hd (by simp) ?_)))
 show wpAny _ _ (newExc (.type "StopIteration") [] >>= _) _ _ _
 refine wpAny_bind ?_
 simp only [newExc, newTuple]
 refine wpAny_bind (wpAny_newObj_type ?_ (by size_fits))
 refine wpAny_bind (m := firstArgMember _ _) (wpAny_of_eq (a := Value.none) (by first | rfl | (simp only [firstArgMember]; rfl)) ?_)
 refine wpAny_newObj_type ?_ (by size_fits)
 have ext : Heap.ExtBut it s.heap (((s.heap.update it (Obj.mapFields (·.setIfInBounds 0 Value.none))).push { cls := .type "tuple", data := .seq ([] : List Value).toArray }).push { cls := .type "StopIteration", data := .fields #[.ref (s.heap.update it (Obj.mapFields (·.setIfInBounds 0 Value.none))).objs.size, .none, .none, .none, .bool false, .none] }) :=
  (((Heap.SameBut.update ..).extBut.push _).push _)
 have hp := Heap.get?_push_size ((s.heap.update it (Obj.mapFields (·.setIfInBounds 0 Value.none))).push { cls := .type "tuple", data := .seq ([] : List Value).toArray }) (o := { cls := .type "StopIteration", data := .fields #[.ref (s.heap.update it (Obj.mapFields (·.setIfInBounds 0 Value.none))).objs.size, .none, .none, .none, .bool false, .none] }) rfl
 refine raise_new (A := A.in1) (vs := #[.ref (s.heap.update it (Obj.mapFields (·.setIfInBounds 0 Value.none))).objs.size, .none, .none, .none, .bool false, .none]) (HdOk.ext hh ext hne) (o := { cls := .type "StopIteration", data := .fields #[.ref (s.heap.update it (Obj.mapFields (·.setIfInBounds 0 Value.none))).objs.size, .none, .none, .none, .bool false, .none] }) ?_ rfl (by simp) fun h' hs hc' => ?_
 ·exact hp
 ·obtain ⟨o', e1, e2⟩ := hc'
  refine wpAny_bind (wpAny_isInstance (T := "StopIteration") (b := true) ⟨_, e1, e2⟩ isSubtype_stop ?_)
  refine wpAny_pure (hQ _ fun b o hb e => (hs.2 b fun q => ?_).trans (ext b o hb e))
  have hlt := Heap.lt_size e
  rw [q] at hlt
  have hz : (s.heap.update it (Obj.mapFields (·.setIfInBounds 0 Value.none))).objs.size = s.heap.objs.size := by cases s.heap; simp [Heap.update]
  rw [Heap.size_push] at hlt
  rw [hz] at hlt
  exact absurd hlt (by simp)
theorem unpackItems_any {t : Addr} {items : Array Value} {Q : List Value → Shared → Prop} (hh : HdOk A s.heap) (ht : s.heap.IsTuple t items)
  (hQ : ∀ h', Heap.ExtBut s.heap.objs.size s.heap h' → Q items.toList { s with heap := h' }) : wpAny (model prog w) A (unpackItems (.ref t) items.size none) Q E s := by
 have hlt : t ≠ s.heap.objs.size := by obtain ⟨o, ho, _⟩ := ht; exact Nat.ne_of_lt (Heap.lt_size ho)
 have hn : s.heap.get? s.heap.objs.size = none := Heap.get?_none_of_le (Nat.le_refl _)
 unfold unpackItems
 refine wpAny_bind ?_
 ·unfold notIterableAtAll
  refine wpAny_bind (wpAny_specialOf ht.typeIs F.slot_tuple_iter.lookup ?_)
  refine wpAny_pure ?_
  simp only [Bool.false_eq_true, if_false]
  refine wpAny_bind (wpAny_holding (wpAny_pyIter_tuple ht ?_))
  refine wpAny_bind (wpAny_holding (wpAny_draw_tuple hlt items.size 0 _ _ ⟨_, Heap.get?_push_size _ rfl, rfl, rfl⟩ (ht.push _) (by omega) fun h₁ hit₁ hs₁ => ?_))
  have hall : List.take items.size (List.drop 0 items.toList) = items.toList := by
   rw [List.drop_zero]; exact List.take_of_length_le (by simp)
  rw [hall]
  rw [if_neg (by simp)]
  have ht₁ : h₁.IsTuple t items := (ht.push _).extBut hs₁.extBut hlt
  have hh1 : HdOk A h₁ := HdOk.ext hh (x := s.heap.objs.size) (fun b o hb e => hs₁.extBut b o hb (Heap.get?_push_of_some _ e)) (HdOk.fresh hh hn)
  refine wpAny_bind (wpAny_holding (tuple_end hh1 (HdOk.fresh hh hn) hit₁ ht₁ (by simp) fun h₂ he₂ => ?_))
  simp only [Option.isSome_none, Bool.false_eq_true, if_false]
  refine wpAny_pure (hQ h₂ fun b o hb e => he₂ b o hb (hs₁.extBut b o hb (Heap.get?_push_of_some _ e)))
theorem unpack_any {t : Addr} {items : Array Value} {targets : List (Bool × (Value → Sem Unit))} {Q : Unit → Shared → Prop} (hh : HdOk A s.heap) (ht : s.heap.IsTuple t items)
  (hn : targets.length = items.size) (hstar : targets.findIdx? (·.1) = none)
  (h : ∀ h', Heap.ExtBut s.heap.objs.size s.heap h' → wpAny (model prog w) A (assignInOrder (targets.map (·.2)) items.toList) Q E { s with heap := h' }) :
  wpAny (model prog w) A (unpack (.ref t) targets) Q E s := by
 unfold unpack
 rw [hn, hstar]
 exact wpAny_bind (wpAny_holding (unpackItems_any hh ht h))
end
theorem vname_inj : ∀ i j : Nat, i < vCount → j < vCount → vname i = vname j → i = j := by
 have : ∀ f : Fin vCount, ∀ g : Fin vCount, vname f.val = vname g.val → f = g := by decide +kernel
 intro f g hf hg h
 exact congrArg Fin.val (this ⟨f, hf⟩ ⟨g, hg⟩ h)
section
variable {prog : Program} {w : World} {b₀ : Heap} {A : Around} {W W' : Wd} {n n' : Nat} {env : Env} {cx : Cx} {loc up : Loc} {h h' : Heap}
theorem FR.touch {x : Addr} (F : FR w W n env cx loc up h) (hk : Heap.ExtBut x h h') (h1 : x ≠ env.locals) (h2 : ∀ y c, (y, c) ∈ env.cells → x ≠ c) : FR w W n env cx loc up h' := by
 have key : ∀ {y : Str} {c : Addr} {v : Option Value}, (y, c) ∈ env.cells → h.IsCell c v → h'.IsCell c v := fun {y c v} hm z => let ⟨ob, e, d⟩ := z; ⟨ob, hk _ _ (Ne.symm (h2 y c hm)) e, d⟩
 obtain ⟨m, hn, hm⟩ := F.ns
 obtain ⟨o, es, ep, ho, r⟩ := id hn
 refine ⟨F.kind, F.glob, F.bi, ⟨m, ⟨o, es, ep, hk _ _ (Ne.symm h1) ho, r⟩, hm⟩, F.kloc, F.kglob, fun y i hy => ?_, fun y i hy v hv => ?_, F.out, fun y c hc => ?_, F.apart⟩
 ·obtain ⟨k, c, o, e, hc, hv⟩ := F.cell y i hy
  exact ⟨k, c, o, e, key (mem_of_lookup e) hc, hv⟩
 ·obtain ⟨k, c, rv, e, hc, R⟩ := F.up y i hy v hv
  exact ⟨k, c, rv, e, key (mem_of_lookup e) hc, R⟩
 ·obtain ⟨g1, g2, g3, o, ho⟩ := F.outc y c hc
  exact ⟨g1, g2, g3, o, key hc ho⟩
noncomputable def Away (A : Around) (x : Addr) : Prop := x ∉ fAddrs A ∧ A.handled ≠ some (.ref x)
theorem SK.touch {x : Addr} (K : SK A W n h) (hk : Heap.ExtBut x h h') (h1 : Away A x) : SK A W n h' := by
 refine ⟨fun env he => ?_, fun e he => ?_, K.hdo⟩
 ·obtain ⟨k, L, hf, ⟨o, ho, hd⟩, q1, q2⟩ := K.fr env he
  refine ⟨k, L, hf, ⟨o, hk _ _ (fun q => h1.1 ?_) ho, hd⟩, q1, q2⟩
  rw [← q]
  exact List.mem_filterMap.mpr ⟨env, he, hf⟩
 ·obtain ⟨ea, o, vs, rfl, ho, hd, h2⟩ := K.hd e he
  exact ⟨ea, o, vs, rfl, hk _ _ (fun q => h1.2 (q ▸ he)) ho, hd, h2⟩
theorem SK.mem {x : Addr} (K : SK A W n h) (h1 : x ∈ fAddrs A) : ∃ o, h.get? x = some o := by
 obtain ⟨env, he, hf⟩ := List.mem_filterMap.mp h1
 obtain ⟨k, L, hf', ⟨o, ho, hd⟩, q1, q2⟩ := K.fr env he
 rw [hf] at hf'; (obtain rfl := inj1 hf'); exact ⟨o, ho⟩
theorem SK.notMem {x : Addr} (K : SK A W n h) (hx : h.get? x = none) : Away A x := by
 refine ⟨fun q => ?_, fun q => ?_⟩
 ·obtain ⟨o, e⟩ := K.mem q; rw [hx] at e; exact noC e
 ·obtain ⟨ea, o, vs, e, ho, _⟩ := K.hd _ q
  cases e; rw [hx] at ho; exact noC ho
theorem FR.notCell {x : Addr} (F : FR w W n env cx loc up h) (hx : h.get? x = none) : ∀ y c, (y, c) ∈ env.cells → x ≠ c := fun y c hc q => by
 obtain ⟨_, _, _, o, ob, e, _⟩ := F.outc y c hc
 rw [← q, hx] at e; exact noC e
theorem FR.locThere (F : FR w W n env cx loc up h) : ∃ o, h.get? env.locals = some o := let ⟨_, ⟨o, _, _, ho, _⟩, _⟩ := F.ns; ⟨o, ho⟩
theorem FR.notLoc {x : Addr} (F : FR w W n env cx loc up h) (hx : h.get? x = none) : x ≠ env.locals := fun q => by
 obtain ⟨o, e⟩ := F.locThere; rw [← q, hx] at e; exact noC e
noncomputable def LocIn (cx : Cx) : Prop := (∀ x i, cx.loc x i → x = vname i ∧ i < vCount) ∧ (∀ x i, cx.cell x i → x = vname i ∧ i < vCount)
theorem locIn_of (sc : Sc) (inC : Bool) : LocIn (cxOf sc inC) := by
 cases inC
 ·exact ⟨fun x i h => h.2, fun x i h => h.2⟩
 ·exact ⟨fun x i h => h.2, fun x i h => h.elim⟩
theorem FR.store {x : Str} {i : Nat} {v : V} {rv : Value} (hI : LocIn cx) (F : FR w W n env cx loc up h) (hx : cx.loc x i) (R : RV w.params W n v rv) (m : Str → Option Value) (hm : h.Ns env.locals m) (hmm : ∀ y j, cx.loc y j → ∀ v, loc j = some v → ∃ rv, m y = some rv ∧ RV w.params W n v rv)
  (hn : h'.Ns env.locals (fun y => if y = x then some rv else m y)) (hs : Heap.SameBut env.locals h h') : FR w W n env cx (loc.put i v) up h' := by
 have key : ∀ {y : Str} {c : Addr} {v : Option Value}, (y, c) ∈ env.cells → h.IsCell c v → h'.IsCell c v := fun {y c v} hm z => let ⟨ob, e, d⟩ := z; ⟨ob, (hs.2 _ (F.outc y c hm).2.2.1).trans e, d⟩
 obtain ⟨ex, hi⟩ := hI.1 x i hx
 refine ⟨F.kind, F.glob, F.bi, ⟨_, hn, fun y j hy u hu => ?_⟩, F.kloc, F.kglob, fun y j hy => ?_, fun y j hy u hu => ?_, F.out, fun y c hc => ?_, F.apart⟩
 ·obtain ⟨ey, hj⟩ := hI.1 y j hy
  by_cases q : j = i
  ·subst q
   have : u = v := by simpa [Loc.put] using hu.symm
   subst this
   exact ⟨rv, by rw [ey, ex]; simp, R⟩
  ·have hne : y ≠ x := fun e => q (vname_inj j i hj hi (by rw [← ey, ← ex, e]))
   have hu' : loc j = some u := by simpa [Loc.put, q] using hu
   obtain ⟨rv', e1, e2⟩ := hmm y j hy u hu'
   exact ⟨rv', by simp [hne, e1], e2⟩
 ·obtain ⟨k, c, o, e, hc, hv⟩ := F.cell y j hy
  refine ⟨k, c, o, e, key (mem_of_lookup e) hc, fun u hu => hv u ?_⟩
  obtain ⟨ey, hj⟩ := hI.2 y j hy
  by_cases q : j = i
  ·subst q
   have : env.kindOf x = some .local := F.kloc x j hx
   rw [ex, ← ey, k] at this; cases this
  ·simpa [Loc.put, q] using hu
 ·obtain ⟨k, c, rv, e, hc, R⟩ := F.up y j hy u hu
  exact ⟨k, c, rv, e, key (mem_of_lookup e) hc, R⟩
 ·obtain ⟨g1, g2, g3, o, ho⟩ := F.outc y c hc
  exact ⟨g1, g2, g3, o, key hc ho⟩
theorem FR.storeCell {x : Str} {i : Nat} {v : V} {rv : Value} {c : Addr} (hI : LocIn cx) (F : FR w W n env cx loc up h) (hup : ∀ y j, ¬ cx.up y j) (hx : cx.cell x i) (hl : env.cells.lookup x = some c) (R : RV w.params W n v rv)
  (hn : h'.IsCell c (some rv)) (hs : Heap.SameBut c h h') : FR w W n env cx (loc.put i v) up h' := by
 obtain ⟨ex, hi⟩ := hI.2 x i hx
 have hcx := mem_of_lookup hl
 obtain ⟨g1, g2, g3, _⟩ := F.outc x c hcx
 have hkx : env.kindOf x = some .cell := (F.cell x i hx).1
 obtain ⟨m, hm, hmm⟩ := F.ns
 refine ⟨F.kind, F.glob, F.bi, ⟨m, hm.sameBut hs (Ne.symm g3), fun y j hy u hu => ?_⟩, F.kloc, F.kglob, fun y j hy => ?_, fun y j hy u hu => absurd hy (hup y j), F.out, fun y c' hc => ?_, F.apart⟩
 ·obtain ⟨ey, hj⟩ := hI.1 y j hy
  by_cases q : j = i
  ·subst q
   have : env.kindOf y = some .local := F.kloc y j hy
   rw [ey, ← ex, hkx] at this; cases this
  ·exact hmm y j hy u (by simpa [Loc.put, q] using hu)
 ·obtain ⟨ey, hj⟩ := hI.2 y j hy
  by_cases q : j = i
  ·subst q
   have exy : y = x := by rw [ey, ex]
   subst exy
   refine ⟨hkx, c, some rv, hl, hn, fun u hu => ⟨rv, rfl, ?_⟩⟩
   have : u = v := by simpa [Loc.put] using hu.symm
   subst this
   exact R
  ·obtain ⟨k, c', o, e, hc, hv⟩ := F.cell y j hy
   have hne : c' ≠ c := fun e' => by
    have := name_of_addr F.apart (mem_of_lookup e) (e' ▸ hcx)
    exact q (vname_inj j i hj hi (by rw [← ey, ← ex, this]))
   exact ⟨k, c', o, e, hc.sameBut hs hne, fun u hu => hv u (by simpa [Loc.put, q] using hu)⟩
 ·obtain ⟨q1, q2, q3, o, ho⟩ := F.outc y c' hc
  by_cases q : c' = c
  ·subst q; exact ⟨q1, q2, q3, _, hn⟩
  ·exact ⟨q1, q2, q3, o, ho.sameBut hs q⟩
end
theorem range_left {a b c : Int} (hc : 0 < c) (i : Nat) : (a + i * c < b) ↔ 0 < Builtin.Range.rangeSize a b c - i := by
 unfold Builtin.Range.rangeSize
 rw [if_pos hc]
 by_cases h : a < b
 ·rw [if_pos h]
  have := Int.le_ediv_iff_mul_le (a := (i : Int)) (b := b - a - 1) hc
  constructor
  ·intro q
   have := this.mpr (by omega)
   omega
  ·intro q
   have := this.mp (by omega)
   omega
 ·rw [if_neg h]
  have : 0 ≤ (i : Int) * c := Int.mul_nonneg (by omega) (by omega)
  omega
theorem range_small {a b s : Int} (h : 0 < s ∧ s < 1073741824 ∧ -1099511627776 < a ∧ a < 1099511627776 ∧ -1099511627776 < b ∧ b < 1099511627776) : Builtin.Range.small a b s = true := by
 obtain ⟨h1, h2, h3, h4, h5, h6⟩ := h
 have hd : a < b → 0 ≤ (b - a - 1) / s ∧ (b - a - 1) / s ≤ b - a - 1 := fun q => ⟨Int.ediv_nonneg (by omega) (by omega), Int.ediv_le_self _ (by omega)⟩
 unfold Builtin.Range.small Builtin.Range.rangeFitsLong Builtin.Range.rangeSize
 rw [if_pos h1]
 by_cases q : a < b
 ·obtain ⟨d1, d2⟩ := hd q
  rw [if_pos q, if_pos h1]
  simp only [Bool.and_eq_true, Bool.or_eq_true, decide_eq_true_eq, beq_iff_eq]
  refine ⟨⟨⟨⟨?_, ?_⟩, ?_⟩, ?_⟩, .inr ?_⟩ <;> constructor <;> omega
 ·rw [if_neg q]
  simp only [Bool.and_eq_true, Bool.or_eq_true, decide_eq_true_eq, beq_iff_eq]
  refine ⟨⟨⟨⟨?_, ?_⟩, ?_⟩, ?_⟩, .inl ?_⟩ <;> first | (constructor <;> omega) | rfl
noncomputable def ItAt (W : Wd) (h : Heap) (k : FK) (v : V) (rv : Value) (It : Addr) (i : Nat) : Prop := match k with
 | .lst => ∃ a, rv = .ref a ∧ h.IsListIter It a i
 | .str => ∃ x t, v.str? = some x ∧ rv = .str x t ∧ h.IsStrIter It (if x.cps.all (· < 128) then "str_ascii_iterator" else "str_iterator") x t i
 | .byt => ∃ l t, v.bytes? = some l ∧ rv = .bytes (bytesArr l) t ∧ KBw.IsBytesIter h It (bytesArr l) t i
 | .rng => ∃ a b s, v.rng? = some (a, b, s) ∧ 0 < s ∧ IsRangeIter h It (a + i * s) (Builtin.Range.rangeSize a b s - i) s
 | .dct => ∃ a o es ep, rv = .ref a ∧ W.B a = some o ∧ o.data = .dict es ep ∧ h.IsKeyIter It a i es.size ep
theorem noDict {o : Obj} {vs : Array Value} (h : o.data = .fields vs) : ¬ isDictD o := fun ⟨_, _, q⟩ => by rw [h] at q; cases q
section
variable {prog : Program} {w : World} {b₀ : Heap} {K : Frag} {mg mb : Str → Option Value} {A : Around}
theorem ItAt.obj {W : Wd} {h : Heap} {k : FK} {v : V} {rv : Value} {It : Addr} {i : Nat} (x : ItAt W h k v rv It i) : ∃ o, h.get? It = some o ∧ ¬ isDictD o ∧ ∀ W' h' n, W.Le W' n → h'.get? It = some o → ItAt W' h' k v rv It i := by
 cases k with
 | lst => obtain ⟨a, e, o, e1, e2, e3⟩ := x; exact ⟨o, e1, noDict e3, fun W' h' n L e' => ⟨a, e, o, e', e2, e3⟩⟩
 | str => obtain ⟨y, t, q, e, o, e1, e2, e3⟩ := x; exact ⟨o, e1, noDict e3, fun W' h' n L e' => ⟨y, t, q, e, o, e', e2, e3⟩⟩
 | byt => obtain ⟨y, t, q, e, o, e1, e2, e3⟩ := x; exact ⟨o, e1, noDict e3, fun W' h' n L e' => ⟨y, t, q, e, o, e', e2, e3⟩⟩
 | rng => obtain ⟨a, b, s, q, hs, e1⟩ := x; exact ⟨_, e1, noDict rfl, fun W' h' n L e' => ⟨a, b, s, q, hs, e'⟩⟩
 | dct => obtain ⟨a, ob, es, ep, q, hB, hd, o, e1, e2, e3⟩ := x; exact ⟨o, e1, noDict e3, fun W' h' n L e' => ⟨a, ob, es, ep, q, L.2 _ _ hB, hd, o, e', e2, e3⟩⟩
theorem ItAt.keep {W W' : Wd} {n : Nat} {h h' : Heap} {k : FK} {v : V} {rv : Value} {It : Addr} {i : Nat} (x : ItAt W h k v rv It i) (L : W.Le W' n) (hk : ∀ o, h.get? It = some o → h'.get? It = some o) : ItAt W' h' k v rv It i :=
 let ⟨o, e, _, f⟩ := x.obj; f W' h' n L (hk o e)
theorem ItAt.notDict {W : Wd} {h : Heap} {k : FK} {v : V} {rv : Value} {It : Addr} {i : Nat} (x : ItAt W h k v rv It i) {o : Obj} (e : h.get? It = some o) : ¬ isDictD o := by
 obtain ⟨o', e', nd, _⟩ := x.obj
 rw [e] at e'; (obtain rfl := inj1 e'); exact nd
theorem ItAt.there {W : Wd} {h : Heap} {k : FK} {v : V} {rv : Value} {It : Addr} {i : Nat} (x : ItAt W h k v rv It i) : ∃ o, h.get? It = some o := let ⟨o, e, _⟩ := x.obj; ⟨o, e⟩
theorem ints_kind {es : List (DK × V)} (h : es.all (fun e => e.1.kind == 1) = true) : sameKind (.i 0) es = true := h
theorem it_start (sm : ∃ o, b₀.get? sysModules = some o) {W : Wd} {st : St} {s : Shared} {k : FK} {v : V} {rv : Value} (I : Inv prog w b₀ W st s.heap) (R : RV w.params W st.n v rv) {u : Except Nat Unit} {st' : St} (e : lockV k v st = some (u, st')) {Q : Value → Shared → Prop} {E : Value → Shared → Prop}
  (hQ : ∀ W' h', u = .ok () → Inv prog w b₀ W' st' h' → Step (fAddrs A) W st s.heap W' st' h' → RV w.params W' st'.n v rv → ItAt W' h' k v rv s.heap.objs.size 0 → s.heap.get? s.heap.objs.size = none → (¬ Owned W' st'.n s.heap.objs.size ∧ W'.B s.heap.objs.size = none) → Q (.ref s.heap.objs.size) ⟨h', s.gens, s.drawn, s.toks, s.os⟩) :
  wpAny (model prog w) A (pyIter rv) Q E s := by
 have hn : s.heap.get? s.heap.objs.size = none := Heap.get?_none_of_le (Nat.le_refl _)
 have kp : ∀ (o : Obj) b o', s.heap.get? b = some o' → (s.heap.push o).get? b = some o' := fun o b o' e => Heap.get?_push_of_some _ e
 have done : ∀ o : Obj, (Except.ok (), st) = (u, st') → ItAt W (s.heap.push o) k v rv s.heap.objs.size 0 → Q (.ref s.heap.objs.size) { s with heap := s.heap.push o } := by
  intro o hst hit
  cases hst
  exact hQ W _ rfl (I.kept (kp o)) (.of_kept (kp o)) R hit hn (not_owned_fresh I hn)
 cases k with
 | lst =>
  obtain ⟨xs, hx, e⟩ := onO_some e
  obtain ⟨a, vs, rfl, l1, _, _⟩ := listOf_real I R hx
  exact wpAny_pyIter_list l1 (done _ (Option.some.inj e) ⟨a, rfl, _, Heap.get?_push_size _ rfl, rfl, rfl⟩)
 | str =>
  obtain ⟨x, hx, e⟩ := onO_some e
  obtain ⟨t, rfl⟩ := R.ofStr hx
  by_cases ha : x.cps.all (· < 128) = true
  ·exact wpAny_pyIter_ascii ha (done _ (Option.some.inj e) ⟨x, t, hx, rfl, by rw [if_pos ha]; exact ⟨_, Heap.get?_push_size _ rfl, rfl, rfl⟩⟩)
  ·exact wpAny_pyIter_wide (Bool.eq_false_iff.mpr ha) (done _ (Option.some.inj e) ⟨x, t, hx, rfl, by rw [if_neg ha]; exact ⟨_, Heap.get?_push_size _ rfl, rfl, rfl⟩⟩)
 | byt =>
  obtain ⟨l, hl, e⟩ := onO_some e
  obtain ⟨t, rfl, _⟩ := R.ofBytes hl
  exact KBw.pyIter_bytes (done _ (Option.some.inj e) ⟨l, t, hl, rfl, _, Heap.get?_push_size _ rfl, rfl, rfl⟩)
 | rng =>
  obtain ⟨⟨a, b, c⟩, hp, e⟩ := onO_some e
  obtain ⟨hc, e⟩ := onP_some e
  obtain ⟨r, t, u', v', rfl, h1⟩ := R.ofRng hp
  refine wpAny_pyIter_range (I.sub _ _ h1) (range_small hc) (done _ (Option.some.inj e) ⟨a, b, c, hp, hc.1, ?_⟩)
  rw [show (a : Int) + ((0 : Nat) : Int) * c = a from by simp, show Builtin.Range.rangeSize a b c - ((0 : Nat) : Int) = Builtin.Range.rangeSize a b c from by simp]
  exact Heap.get?_push_size s.heap (o := { cls := .type "range_iterator", data := .fields #[rawInt a, rawInt (Builtin.Range.rangeSize a b c), rawInt c] }) rfl
 | dct =>
  obtain ⟨p, hp, e⟩ := onO_some e
  obtain ⟨hk, e⟩ := onP_some e
  obtain ⟨hj, hf, rfl, D, hsm⟩ := dict_real sm I R hp
  obtain ⟨kvs, hd, hv⟩ := D.of (ints_kind hk)
  obtain ⟨o, es', ep, g1, g2, g3, g4, g5, g6⟩ := id hd
  obtain ⟨_, ⟨o2, q2⟩⟩ := I.live p.1 hj
  obtain ⟨I', S'⟩ := I.locked (F := fAddrs A) hj hf sm g1 q2
  have hB : ((W.freeze (W.ρ p.1) o).freeze (W.σ p.1) o2).B (W.ρ p.1) = some o := by
   show (if W.ρ p.1 = W.σ p.1 then some o2 else if W.ρ p.1 = W.ρ p.1 then some o else W.B (W.ρ p.1)) = some o
   by_cases q : W.ρ p.1 = W.σ p.1
   ·rw [if_pos q]; rw [← q, g1] at q2; exact q2.symm
   ·rw [if_neg q, if_pos rfl]
  have e3 : es'.size = kvs.length := by rw [← g5.length]; simp
  cases Option.some.inj e
  refine wpAny_pyIter_dict (knd := PySem.intKind prog w) (kvs := kvs) (ep := ep) hsm ⟨o, es', g1, g2, g3, g4, g5, g6⟩ ?_
  exact hQ _ _ rfl (I'.kept (kp _)) (S'.trans I' (.of_kept (kp _))) (R.mono S'.le S'.grow) ⟨_, o, es', ep, rfl, hB, g3, by rw [e3]; exact ⟨_, Heap.get?_push_size _ rfl, rfl, rfl⟩⟩ hn (not_owned_fresh I' hn)
theorem it_dict {W : Wd} {st : St} {s : Shared} {v : V} {rv : Value} {It : Addr} {i : Nat} (I : Inv prog w b₀ W st s.heap) (R : RV w.params W st.n v rv) (x : ItAt W s.heap .dct v rv It i) {es : List (DK × V)} (he : ldictAt st v = some es) (hall : es.all (fun e => e.1.kind == 1) = true) :
  ∃ a kvs ep, s.heap.IsKeyIter It a i kvs.length ep ∧ s.heap.DictAt (PySem.intKind prog w) a kvs ep ∧ DP w.params W st.n DK.i es kvs ∧ rv = .ref a ∧ ∃ o es', W.B a = some o ∧ o.data = .dict es' ep ∧ es'.size = kvs.length := by
 obtain ⟨a, o, es', ep, rfl, hB, hd, hit⟩ := x
 obtain ⟨p, hp, he⟩ := bndS he
 obtain ⟨q, hj, hf⟩ := slot_real R hp
 cases q
 have ho := I.own _ hj
 rw [hf, Ob.ofLdict he] at ho
 obtain ⟨kvs, hd2, hv⟩ := ho.1.of (ints_kind hall)
 obtain ⟨o', es2, ep2, g1, g2, g3, g4, g5, g6⟩ := id hd2
 rw [I.sub _ _ hB] at g1
 obtain rfl := inj1 g1
 rw [hd] at g3
 cases g3
 have e3 : es'.size = kvs.length := by rw [← g5.length]; simp
 rw [e3] at hit
 exact ⟨_, kvs, ep, hit, ⟨o, es', I.sub _ _ hB, g2, hd, g4, g5, g6⟩, hv, rfl, o, es', hB, hd, e3⟩
theorem DP.at {P : Params} {W : Wd} {n : Nat} {K : Type} {f : K → DK} {es : List (DK × V)} : ∀ {kvs : List (K × Value)}, DP P W n f es kvs → ∀ {i : Nat} {e : DK × V}, es[i]? = some e → ∃ k rv, kvs[i]? = some (k, rv) ∧ e.1 = f k := by
 induction es with
 | nil => intro kvs _ i e q; rw [List.getElem?_nil] at q; exact noC q
 | cons e0 es ih =>
  intro kvs h i e q
  obtain ⟨k, rv, r, rfl, e1, _, h2⟩ := h
  cases i with
  | zero => (obtain rfl := inj1 q); exact ⟨k, rv, rfl, e1⟩
  | succ i => exact ih h2 q
theorem it_next {W : Wd} {st : St} {s : Shared} {k : FK} {v u : V} {rv : Value} {It : Addr} {i : Nat} (I : Inv prog w b₀ W st s.heap) (R : RV w.params W st.n v rv) (x : ItAt W s.heap k v rv It i) (e : nextV st k v i = some (some u)) {Q : Option Value → Shared → Prop} {E : Value → Shared → Prop}
  (hQ : ∀ ru h' tk, RV w.params W st.n u ru → ItAt W h' k v rv It (i + 1) → Heap.SameBut It s.heap h' → Q (some ru) ⟨h', s.gens, s.drawn, tk, s.os⟩) : wpAny (model prog w) A (pyNext (.ref It)) Q E s := by
 cases k with
 | lst =>
  obtain ⟨xs, hx, e⟩ := mapS e
  obtain ⟨a, vs, rfl, l1, r1, _⟩ := listOf_real I R hx
  obtain ⟨a', e', hit⟩ := x
  cases e'
  obtain ⟨ru, hr, Ru⟩ := r1.get e
  exact wpAny_pyNext_list_item hit l1 (by rw [List.getElem?_toArray]; exact hr) fun h' hit' hs => hQ ru h' s.toks Ru ⟨a, rfl, hit'⟩ hs
 | str =>
  obtain ⟨y, hy, e⟩ := mapS e
  obtain ⟨c, hc, rfl⟩ := mapS e
  obtain ⟨y', t, hy', rfl, hit⟩ := x
  cases hy.symm.trans hy'
  by_cases ha : y.cps.all (· < 128) = true
  ·rw [if_pos ha] at hit
   exact wpAny_pyNext_ascii_item hit hc fun h' hit' hs => hQ _ h' _ (RV.str _ _) ⟨y, t, hy, rfl, by rw [if_pos ha]; exact hit'⟩ hs
  ·rw [if_neg ha] at hit
   exact wpAny_pyNext_wide_item hit hc fun h' hit' hs => hQ _ h' _ (RV.str _ _) ⟨y, t, hy, rfl, by rw [if_neg ha]; exact hit'⟩ hs
 | byt =>
  obtain ⟨l, hl, e⟩ := mapS e
  obtain ⟨c, hc, rfl⟩ := mapS e
  obtain ⟨l', t, hl', rfl, hit⟩ := x
  cases hl.symm.trans hl'
  obtain ⟨_, _, hb⟩ := R.ofBytes hl
  have hx' : (bytesArr l)[i]? = some (UInt8.ofNat c) := by unfold bytesArr; rw [List.getElem?_toArray, List.getElem?_map, hc]; rfl
  have hc' : ((UInt8.ofNat c).toNat : Int) = c := by have := hb c (List.mem_of_getElem? hc); simp; omega
  exact KBw.next_item hit hx' fun h' hit' hs => by rw [hc']; exact hQ _ h' _ (RV.int _ _) ⟨l, t, hl, rfl, hit'⟩ hs
 | rng =>
  obtain ⟨p, hp, e⟩ := mapS e
  obtain ⟨a, b, c, hp', hc, hit⟩ := x
  cases hp.symm.trans hp'
  dsimp only at e
  by_cases hlt : a + (i : Int) * c < b
  ·rw [if_pos hlt] at e
   obtain rfl := inj1 e
   refine wpAny_pyNext_range_item hit ((range_left hc i).mp hlt) fun h' hit' hs => hQ _ h' _ (RV.int _ _) ⟨a, b, c, hp, hc, ?_⟩ hs
   rw [show a + ((i + 1 : Nat) : Int) * c = a + (i : Int) * c + c from by push_cast; rw [Int.add_mul]; omega, show Builtin.Range.rangeSize a b c - ((i + 1 : Nat) : Int) = Builtin.Range.rangeSize a b c - (i : Int) - 1 from by push_cast; omega]
   exact hit'
  ·rw [if_neg hlt] at e; exact noC e
 | dct =>
  obtain ⟨es, he, e⟩ := bndS e
  by_cases hall : es.all (fun e => e.1.kind == 1) = true
  ·rw [if_pos hall] at e
   obtain ⟨ent, hx, rfl⟩ := mapS (Option.some.inj e)
   obtain ⟨a, kvs, ep, hit, hda, hv, rfl, o, es', hB, hd, e3⟩ := it_dict I R x he hall
   obtain ⟨k, rv', hk1, hk2⟩ := hv.at hx
   refine wpAny_pyNext_dict_item (knd := PySem.intKind prog w) hit hda hk1 fun key h' hkk hit' hs => ?_
   rw [hk2] at hQ
   exact hQ key h' s.toks (by obtain ⟨t, rfl⟩ := Value.isInt_shape hkk; exact RV.int _ _) ⟨a, o, es', ep, rfl, hB, hd, by rw [e3]; exact hit'⟩ hs
  ·rw [if_neg hall] at e; exact noC e
theorem it_end {W : Wd} {st : St} {s : Shared} {k : FK} {v : V} {rv : Value} {It : Addr} {i : Nat} (hh : A.handled = none) (I : Inv prog w b₀ W st s.heap) (R : RV w.params W st.n v rv) (x : ItAt W s.heap k v rv It i) (e : nextV st k v i = some none) {Q : Option Value → Shared → Prop} {E : Value → Shared → Prop}
  (hQ : ∀ h' tk, Heap.ExtBut It s.heap h' → Q none ⟨h', s.gens, s.drawn, tk, s.os⟩) : wpAny (model prog w) A (pyNext (.ref It)) Q E s := by
 cases k with
 | lst =>
  obtain ⟨xs, hx, e⟩ := mapS e
  obtain ⟨a, vs, rfl, l1, r1, _⟩ := listOf_real I R hx
  obtain ⟨a', e', hit⟩ := x
  cases e'
  exact wpAny_pyNext_list_end hh hit l1 (by rw [List.getElem?_toArray, List.getElem?_eq_none_iff, r1.length]; exact List.getElem?_eq_none_iff.mp e) fun h' hs => hQ h' s.toks hs
 | str =>
  obtain ⟨y, hy, e⟩ := mapS e
  have e := Option.map_eq_none_iff.mp e
  obtain ⟨y', t, hy', rfl, hit⟩ := x
  cases hy.symm.trans hy'
  by_cases ha : y.cps.all (· < 128) = true
  ·rw [if_pos ha] at hit
   exact wpAny_pyNext_ascii_end hh hit e fun h' hs => hQ h' _ hs
  ·rw [if_neg ha] at hit
   exact wpAny_pyNext_wide_end hh hit e fun h' hs => hQ h' _ hs
 | byt =>
  obtain ⟨l, hl, e⟩ := mapS e
  have e := Option.map_eq_none_iff.mp e
  obtain ⟨l', t, hl', rfl, hit⟩ := x
  cases hl.symm.trans hl'
  exact KBw.next_end hh hit (by unfold bytesArr; rw [List.getElem?_toArray, List.getElem?_map, e]; rfl) fun h' hs => hQ h' _ hs
 | rng =>
  obtain ⟨p, hp, e⟩ := mapS e
  obtain ⟨a, b, c, hp', hc, hit⟩ := x
  cases hp.symm.trans hp'
  dsimp only at e
  by_cases hlt : a + (i : Int) * c < b
  ·rw [if_pos hlt] at e; exact nsC e
  ·exact wpAny_pyNext_range_end hh hit (by have := range_left (a := a) (b := b) hc i; omega) fun h' hs => hQ h' _ hs
 | dct =>
  obtain ⟨es, he, e⟩ := bndS e
  by_cases hall : es.all (fun e => e.1.kind == 1) = true
  ·rw [if_pos hall] at e
   have e := Option.map_eq_none_iff.mp (Option.some.inj e)
   obtain ⟨a, kvs, ep, hit, hda, hv, rfl, _⟩ := it_dict I R x he hall
   exact wpAny_pyNext_dict_end (knd := PySem.intKind prog w) hh hit hda (by rw [List.getElem?_eq_none_iff, hv.length]; exact List.getElem?_eq_none_iff.mp e) fun h' hs => hQ h' s.toks hs
  ·rw [if_neg hall] at e; exact noC e
theorem it_self {W : Wd} {s : Shared} {k : FK} {v : V} {rv : Value} {It : Addr} {i : Nat} (x : ItAt W s.heap k v rv It i) {Q : Value → Shared → Prop} {E : Value → Shared → Prop} (hQ : Q (.ref It) s) : wpAny (model prog w) A (pyIter (.ref It)) Q E s := by
 cases k with
 | lst => obtain ⟨a, e, hit⟩ := x; exact wpAny_pyIter_listiter hit hQ
 | str =>
  obtain ⟨y, t', _, e, hit⟩ := x
  by_cases ha : y.cps.all (· < 128) = true
  ·rw [if_pos ha] at hit; exact wpAny_pyIter_striter_ascii hit hQ
  ·rw [if_neg ha] at hit; exact wpAny_pyIter_striter_wide hit hQ
 | byt => obtain ⟨l, t', _, e, hit⟩ := x; exact KBw.pyIter_self hit hQ
 | rng => obtain ⟨_, _, _, _, _, hit⟩ := x; exact wpAny_pyIter_rangeiter hit hQ
 | dct => obtain ⟨a, o, es, ep, _, _, _, hit⟩ := x; exact wpAny_pyIter_keyiter hit hQ
end
theorem lookup_relabel {env : Env} : ∀ {names : List (Str × NameKind)} {x : Str}, (names.map fun (n, k) => if (k == NameKind.free && env.scope.kind == .function && env.kindOf n == some .cell) then (n, NameKind.cell) else (n, k)).lookup x =
  (names.lookup x).map fun k => if (k == NameKind.free && env.scope.kind == .function && env.kindOf x == some .cell) then NameKind.cell else k
 | [], _ => rfl
 | (n, k) :: r, x => by
  have ih := @lookup_relabel env r x
  show List.lookup x ((if (k == NameKind.free && env.scope.kind == .function && env.kindOf n == some .cell) = true then (n, NameKind.cell) else (n, k)) :: _) = _
  cases hx : x == n with
  | true =>
   have e := beq_iff_eq.mp hx
   subst e
   simp only [List.lookup_cons, hx, Option.map_some]
   split <;> simp_all
  | false =>
   simp only [List.lookup_cons, hx]
   split
   ·simp only [List.lookup_cons, hx]; exact ih
   ·simp only [List.lookup_cons, hx]; exact ih
theorem clos_ok {env : Env} : ∀ (names : List (Str × NameKind)) (acc : List (Str × Addr)), (∀ p ∈ names, p.2 = .free → ∃ c, env.cells.lookup p.1 = some c) →
  ∃ cl, (forIn names acc fun x r => (match x with | (name, kind) => if (kind == NameKind.free) = true then do let a ← cellOf env name; pure (ForInStep.yield ((name, a) :: r)) else pure (ForInStep.yield r) : Sem (ForInStep (List (Str × Addr))))) = pure cl ∧
   (∀ y c, (y, c) ∈ cl → (y, c) ∈ acc ∨ (env.cells.lookup y = some c ∧ y ∈ names.map (·.1))) ∧
   (∀ y c, (y, c) ∈ acc → (y, c) ∈ cl) ∧ (∀ p ∈ names, p.2 = .free → ∃ c, (p.1, c) ∈ cl) ∧
   ((acc.map (·.1) ++ names.map (·.1)).Nodup → (cl.map (·.1)).Nodup)
 | [], acc, _ => ⟨acc, rfl, fun y c h => .inl h, fun y c h => h, (fun p h => nomatch h), fun h => by simpa using h⟩
 | (n, k) :: r, acc, hc => by
  by_cases hk : k = .free
  ·subst hk
   obtain ⟨c, hcc⟩ := hc (n, .free) (.head _) rfl
   obtain ⟨cl, e, h1, h2, h3, h4⟩ := clos_ok r ((n, c) :: acc) fun p hp => hc p (.tail _ hp)
   refine ⟨cl, ?_, fun y d hy => ?_, fun y d hy => h2 y d (.tail _ hy), fun p hp hf => ?_, fun hn => h4 ?_⟩
   ·rw [List.forIn_cons]
    have : cellOf env n = pure c := by unfold cellOf; rw [hcc]
    show ((do let a ← cellOf env n; pure (ForInStep.yield ((n, a) :: acc))) >>= _) = _
    rw [this]
    exact e
   ·rcases h1 y d hy with q | q
    ·rcases List.mem_cons.mp q with q | q
     ·cases q; exact .inr ⟨hcc, by simp⟩
     ·exact .inl q
    ·exact .inr ⟨q.1, by simp only [List.map_cons, List.mem_cons]; exact .inr q.2⟩
   ·rcases List.mem_cons.mp hp with rfl | hp
    ·exact ⟨c, h2 _ _ (.head _)⟩
    ·exact h3 p hp hf
   ·simp only [List.map_cons, List.cons_append, List.nodup_cons, List.mem_append, not_or] at hn ⊢
    rw [List.nodup_append] at hn
    obtain ⟨a1, a2, a3⟩ := hn
    rw [List.nodup_cons] at a2
    refine ⟨⟨fun q => a3 _ q _ (.head _) rfl, a2.1⟩, ?_⟩
    rw [List.nodup_append]
    exact ⟨a1, a2.2, fun a ha b hb => a3 a ha b (.tail _ hb)⟩
  ·obtain ⟨cl, e, h1, h2, h3, h4⟩ := clos_ok r acc fun p hp => hc p (.tail _ hp)
   refine ⟨cl, ?_, fun y d hy => ?_, h2, fun p hp hf => ?_, fun hn => h4 ?_⟩
   ·rw [List.forIn_cons]
    have : (k == NameKind.free) = false := by simpa using hk
    show ((if (k == NameKind.free) = true then _ else _) >>= _) = _
    rw [if_neg (by rw [this]; decide)]
    exact e
   ·rcases h1 y d hy with q | q
    ·exact .inl q
    ·exact .inr ⟨q.1, by simp only [List.map_cons, List.mem_cons]; exact .inr q.2⟩
   ·rcases List.mem_cons.mp hp with rfl | hp
    ·exact absurd hf hk
    ·exact h3 p hp hf
   ·simp only [List.map_cons] at hn
    rw [List.nodup_append] at hn ⊢
    obtain ⟨a1, a2, a3⟩ := hn
    rw [List.nodup_cons] at a2
    exact ⟨a1, a2.2, fun a ha b hb => a3 a ha b (.tail _ hb)⟩
theorem lookup_nodup {α : Type} : ∀ {l : List (Str × α)} {y : Str} {c : α}, (l.map (·.1)).Nodup → (y, c) ∈ l → l.lookup y = some c
 | (n, d) :: r, y, c, hn, h => by
  simp only [List.map_cons, List.nodup_cons] at hn
  rcases List.mem_cons.mp h with q | q
  ·cases q; simp [List.lookup_cons]
  ·have : (y == n) = false := by
    rw [beq_eq_false_iff_ne]
    rintro rfl
    exact hn.1 (List.mem_map.mpr ⟨_, q, rfl⟩)
   rw [List.lookup_cons, this]; exact lookup_nodup hn.2 q
theorem clos_for {w : World} {W : Wd} {n : Nat} {env : Env} {sc : Sc} {loc up : Loc} {h : Heap} {scope : Scope} (F : FR w W n env (cxF sc) loc up h) (hs : okScope sc scope = true) :
  ∃ cl, closureFor scope env = pure cl ∧ (∀ y c, (y, c) ∈ cl → (y, c) ∈ env.cells) ∧ (∀ y, scope.names.lookup y = some .free → ∃ c, cl.lookup y = some c ∧ env.cells.lookup y = some c) ∧ (cl.Pairwise fun x y => x.2 ≠ y.2) := by
 simp only [okScope, Bool.and_eq_true, decide_eq_true_eq, List.all_eq_true] at hs
 obtain ⟨⟨hk, hnd⟩, hall⟩ := hs
 have hcells : ∀ p ∈ scope.names, p.2 = .free → ∃ c, env.cells.lookup p.1 = some c := by
  intro p hp hf
  have h1 := (hall p hp).2
  rw [hf] at h1
  simp only [bne_self_eq_false, Bool.false_or, Bool.and_eq_true, beq_iff_eq, List.any_eq_true, List.mem_range] at h1
  obtain ⟨h2, i, hi, h3⟩ := h1
  obtain ⟨_, c, o, e, _⟩ := F.cell p.1 i ⟨h2, h3, hi⟩
  exact ⟨c, e⟩
 obtain ⟨cl, e, h1, h2, h3, h4⟩ := clos_ok scope.names [] hcells
 have hn : (cl.map (·.1)).Nodup := h4 (by simpa using hnd)
 have hl : ∀ y c, (y, c) ∈ cl → env.cells.lookup y = some c := fun y c hy => by
  rcases h1 y c hy with q | q
  ·cases q
  ·exact q.1
 refine ⟨cl, ?_, fun y c hy => mem_of_lookup (hl y c hy), fun y hy => ?_, ?_⟩
 ·unfold closureFor
  rw [show (do
   let mut cs : List (Str × Addr) := []
   for (name, kind) in scope.names do
    if (kind == .free) = true then cs := (name, ← cellOf env name) :: cs
   return cs : Sem (List (Str × Addr))) = (forIn scope.names ([] : List (Str × Addr)) (fun x r => (match x with | (name, kind) => if (kind == NameKind.free) = true then do let a ← cellOf env name; pure (ForInStep.yield ((name, a) :: r)) else pure (ForInStep.yield r) : Sem (ForInStep (List (Str × Addr))))) >>= fun cs => pure cs) from rfl]
  rw [e]; rfl
 ·obtain ⟨c, hc⟩ := h3 (y, .free) (mem_of_lookup hy) rfl
  exact ⟨c, lookup_nodup hn hc, hl y c hc⟩
 ·have : ∀ l : List (Str × Addr), (l.map (·.1)).Nodup → (∀ y c, (y, c) ∈ l → env.cells.lookup y = some c) → l.Pairwise fun x y => x.2 ≠ y.2 := by
   intro l
   induction l with
   | nil => intro _ _; exact .nil
   | cons a l ih =>
    intro hn hl
    simp only [List.map_cons, List.nodup_cons] at hn
    refine List.pairwise_cons.mpr ⟨fun b hb e => ?_, ih hn.2 fun y c h => hl y c (.tail _ h)⟩
    have e1 := mem_of_lookup (hl a.1 a.2 (.head _))
    have e2 := mem_of_lookup (hl b.1 b.2 (.tail _ hb))
    rw [← e] at e2
    have := name_of_addr F.apart e1 e2
    exact hn.1 (List.mem_map.mpr ⟨b, hb, this.symm⟩)
  exact this cl hn hl
section
variable {prog : Program} {w : World} {b₀ : Heap} {A : Around}
theorem store_loc {env : Env} {cx : Cx} {loc up : Loc} {x : Str} {i : Nat} {v : V} {rv : Value} {W : Wd} {k : Nat} {s : Shared} (hI : LocIn cx) (F : FR w W k env cx loc up s.heap) (hx : cx.loc x i) (R : RV w.params W k v rv) {Q : Unit → Shared → Prop} {E : Value → Shared → Prop}
  (hQ : ∀ h' tk, FR w W k env cx (loc.put i v) up h' → Heap.ExtBut env.locals s.heap h' → Q () ⟨h', s.gens, s.drawn, tk, s.os⟩) : wpAny (model prog w) A (storeName env x rv) Q E s := by
 obtain ⟨m, hm, hmm⟩ := F.ns
 exact wpAny_storeName_local (F.kloc x i hx) hm (fun h' hn' hs' => hQ h' _ (F.store hI hx R m hm hmm hn' hs') hs'.extBut) (by rw [F.kind]; rfl)
theorem isLoc_c {csc : Sc} {i : Nat} {x : Str} (h : isLoc csc true i x = true) : (cxC csc).loc x i := by
 simp only [isLoc, Bool.and_eq_true, Bool.or_eq_true, beq_iff_eq, decide_eq_true_eq, Bool.not_true, Bool.false_and, Bool.false_eq_true, or_false] at h
 exact ⟨h.2.1, h.1.1, h.1.2⟩
theorem assign_tg {csc : Sc} {tg : List Nat} {target : Expr} {u : V} {ru : Value} {loc loc' up : Loc} {env : Env} {W : Wd} {st : St} {s : Shared} (hc : chkTg csc tg target = true) (hb : bindT tg u loc = some loc') (I : Inv prog w b₀ W st s.heap) (F : FR w W st.n env (cxC csc) loc up s.heap) (K : SK A W st.n s.heap) (R : RV w.params W st.n u ru)
  {Q : Unit → Shared → Prop} {E : Value → Shared → Prop} (hQ : ∀ h' tk, FR w W st.n env (cxC csc) loc' up h' → Heap.ExtBut env.locals s.heap h' → Q () ⟨h', s.gens, s.drawn, tk, s.os⟩) : wpAny (model prog w) A (assign target env ru) Q E s := by
 have hI := locIn_of csc true
 rcases Bool.or_eq_true_iff.mp hc with hc | hc
 ·obtain ⟨x, hx, g⟩ := any_some hc
  obtain ⟨pos, rfl⟩ := xName_of hx
  obtain ⟨i, h1, h2⟩ := any_some g
  unfold bindT at hb
  rw [h1] at hb
  obtain rfl := inj1 hb
  exact wpAny_assign_Name (store_loc hI F (isLoc_c h2) R hQ)
 ·obtain ⟨es, hx, g⟩ := any_some hc
  obtain ⟨pos, rfl⟩ := xTup_of hx
  obtain ⟨t, ht, g⟩ := any_some g
  obtain ⟨⟨e1, e2⟩, he, g⟩ := any_some g
  obtain ⟨hx, hy⟩ := andS g
  obtain ⟨x1, hx1, gx⟩ := any_some hx
  obtain ⟨x2, hx2, gy⟩ := any_some hy
  obtain ⟨p1, rfl⟩ := xName_of hx1
  obtain ⟨p2, rfl⟩ := xName_of hx2
  obtain rfl := (two_of he : _ = _)
  obtain rfl := (two_of ht : _ = _)
  obtain ⟨us, hu, hb⟩ := bndS hb
  obtain ⟨p, hp, rfl⟩ := mapS hb
  obtain ⟨a, vs, kk, rfl, g1, g2⟩ := R.ofTup hu
  obtain ⟨r1, r2, rfl, R1, R2⟩ := g2.ofTwo hp
  rw [arm_assign_Tuple]
  refine wpAny_bind (wpAny_standAt (unpack_any (items := #[r1, r2]) K.hd ⟨_, I.sub _ _ g1, rfl, _, rfl⟩ rfl rfl fun h1' he => ?_))
  have hn : s.heap.get? s.heap.objs.size = none := Heap.get?_none_of_le (Nat.le_refl _)
  refine wpAny_bind (wpAny_holding (wpAny_assign_Name (store_loc hI (F.touch he (F.notLoc hn) (F.notCell hn)) (isLoc_c gx) R1 fun h2' tk2 F2 e2 => ?_)))
  refine wpAny_bind (wpAny_holding (wpAny_assign_Name (store_loc hI F2 (isLoc_c gy) R2 fun h3' tk3 F3 e3 => ?_)))
  exact wpAny_pure (hQ h3' tk3 F3 fun b o hb e => e3 b o hb (e2 b o hb (he b o (fun q => by rw [q, hn] at e; (exact noC e)) e)))
end
structure CI (prog : Program) (w : World) (b₀ : Heap) (A : Around) (W0 : Wd) (st0 : St) (h0 : Heap) (csc : Sc) (cenv : Env) (up : Loc) (kk : FK) (v : V) (rv : Value) (It D : Addr) (W : Wd) (st : St) (h : Heap) (i : Nat) (loc : Loc) (acc : List V) (vs : List Value) : Prop where
 inv : Inv prog w b₀ W st h
 step : Step (fAddrs A) W0 st0 h0 W st h
 fr : FR w W st.n cenv (cxC csc) loc up h
 sk : SK A W st.n h
 rvl : RV w.params W st.n v rv
 it : ItAt W h kk v rv It i
 pl : h.PlainList D vs.toArray
 rvs : RVs w.params W st.n acc vs
 oI : ¬ Owned W st.n It ∧ W.B It = none
 oD : ¬ Owned W st.n D ∧ W.B D = none
structure CS (A : Around) (h0 : Heap) (cenv : Env) (It D : Addr) : Prop where
 nI : h0.get? It = none
 nD : h0.get? D = none
 nC : h0.get? cenv.locals = none
 ID : It ≠ D
 IC : It ≠ cenv.locals
 DC : D ≠ cenv.locals
 aI : Away A It
 aD : Away A D
 aC : Away A cenv.locals
 cI : ∀ y c, (y, c) ∈ cenv.cells → It ≠ c
 cD : ∀ y c, (y, c) ∈ cenv.cells → D ≠ c
section
variable {prog : Program} {w : World} {b₀ : Heap} {A : Around} {W0 : Wd} {st0 : St} {h0 : Heap} {csc : Sc} {cenv : Env} {up : Loc} {kk : FK} {v : V} {rv : Value} {It D : Addr} {W W' : Wd} {st st' : St} {h h' : Heap} {i : Nat} {loc : Loc} {acc : List V} {vs : List Value}
theorem CI.moved (x : CI prog w b₀ A W0 st0 h0 csc cenv up kk v rv It D W st h i loc acc vs) (S : Step (fAddrs A) W st h W' st' h') (I' : Inv prog w b₀ W' st' h') : CI prog w b₀ A W0 st0 h0 csc cenv up kk v rv It D W' st' h' i loc acc vs := by
 obtain ⟨o, eI⟩ := x.it.there
 obtain ⟨kD, eD⟩ := x.pl
 exact ⟨I', x.step.trans x.inv S, x.fr.step S, x.sk.step S, x.rvl.mono S.le S.grow, x.it.keep S.le (fun o e => S.exact _ _ e x.oI.1 (.inr (x.it.notDict e))), ⟨kD, S.exact _ _ eD x.oD.1 (.inr fun ⟨_, _, q⟩ => by cases q)⟩, x.rvs.mono S.le S.grow,
  ⟨S.notOwned eI x.oI.1, S.notB eI x.oI.1 x.oI.2⟩, ⟨S.notOwned eD x.oD.1, S.notB eD x.oD.1 x.oD.2⟩⟩
end
section
variable {prog : Program} {w : World} {A : Around}
theorem let_go {W : Wd} {k : FK} {v : V} {rv val : Value} {It : Addr} {i : Nat} {s : Shared} {target : Expr} {Q : Unit → Shared → Prop} {E : Value → Shared → Prop} (x : ItAt W s.heap k v rv It i) (hQ : Q () s) : wpAny (model prog w) A (letOwnedTupleGo target (.ref It) val) Q E s := by
 have key : ∀ o, s.heap.get? It = some o → (∃ n : String, o.cls = .type n ∧ ["enumerate", "zip", "dict_itemiterator", "dict_reverseitemiterator", "odict_iterator", "itertools.zip_longest", "itertools.pairwise"].contains n = false) → wpAny (model prog w) A (letOwnedTupleGo target (.ref It) val) Q E s := by
  intro o ho hn
  obtain ⟨n, hc, hno⟩ := hn
  obtain ⟨oc, od, oda, osl⟩ := o
  obtain rfl := (hc : _ = _)
  unfold letOwnedTupleGo
  split
  ·cases val with
   | ref a =>
    refine wpAny_bind (wpAny_load ho ?_)
    cases oda with
    | fields vs => dsimp only; rw [hno]; exact wpAny_pure hQ
    | _ => exact wpAny_pure hQ
   | _ => exact wpAny_pure hQ
  ·cases val with
   | ref a =>
    refine wpAny_bind (wpAny_load ho ?_)
    cases oda with
    | fields vs => dsimp only; rw [hno]; exact wpAny_pure hQ
    | _ => exact wpAny_pure hQ
   | _ => exact wpAny_pure hQ
  ·exact wpAny_pure hQ
 cases k with
 | lst => obtain ⟨a, e, o, e1, e2, _⟩ := x; exact key o e1 ⟨_, e2, by decide⟩
 | dct => obtain ⟨a, ob, es, ep, _, _, _, o, e1, e2, _⟩ := x; exact key o e1 ⟨_, e2, by decide⟩
 | str =>
  obtain ⟨y, t', _, _, o, e1, e2, _⟩ := x
  refine key o e1 ⟨_, e2, ?_⟩
  split <;> decide
 | byt => obtain ⟨l, t', _, _, o, e1, e2, _⟩ := x; exact key o e1 ⟨_, e2, by decide⟩
 | rng => obtain ⟨_, _, _, _, _, e1⟩ := x; exact key _ e1 ⟨_, rfl, by decide⟩
theorem comp_tests {R : Result → Shared → Prop} {elt target iter : Expr} {ifs : List Expr} {scope : Scope} {pos : Pos} {it acc : Value} {env : Env} {s : Shared} (I : Nat → Shared → Prop)
  (turn : ∀ n s, I n s → wpAny (model prog w) A (pyNext it) (fun r s₁ => match r with
   | none => R (.ok .next) s₁
   | some v => wpAny (model prog w) A (letOwnedTupleGo target it v) (fun _ s₁ => wpAny (model prog w) A (assign target env v) (fun _ s₂ =>
     wpAny (model prog w) A (forIn ifs true fun c r => if r = true then do let ok ← isTrue c env (eval c env); pure (ForInStep.yield ok) else pure (ForInStep.yield r)) (fun ok s₃ =>
      if ok = true then wpAny (model prog w) A (eval elt env) (fun x s₄ =>
       wpAny (model prog w) A (call (.builtin "list.append") [acc, x]) (fun _ s₅ => ∃ m, m < n ∧ I m s₅) (notedBy (model prog w) A env fun e s' => R (.error e) s') s₄) (notedBy (model prog w) A env fun e s' => R (.error e) s') s₃
      else ∃ m, m < n ∧ I m s₃) (notedBy (model prog w) A env fun e s' => R (.error e) s') s₂) (notedBy (model prog w) A env fun e s' => R (.error e) s') s₁) (notedBy (model prog w) A env fun e s' => R (.error e) s') s₁) (notedBy (model prog w) A env fun e s' => R (.error e) s') s)
  (n : Nat) (h : I n s) :
  codeAny (model prog w) A (.compLoop (.ListComp elt [⟨target, iter, ifs, 0⟩] scope pos) 0 it acc env) R s := by
 refine codeAny_loop rfl I (fun n s hI => ?_) n h
 show wpAny _ A ((compTurn (.ListComp elt [⟨target, iter, ifs, 0⟩] scope pos) 0 it acc env).onRaise (fun x => do noteFrame x env; theTreesLotGoes x)) _ _ s
 refine wpAny_noted ?_
 rw [compTurn_list]
 refine wpAny_bind (wpAny_standAt (wpAny_bind (wpAny_mono (turn n s hI) (fun r s₁ h₁ => ?_) fun _ _ h' => h')))
 cases r with
 | none => exact wpAny_pure h₁
 | some v =>
  refine wpAny_bind (wpAny_mono h₁ (fun _ s₁ h₁ => ?_) fun _ _ h' => h')
  refine wpAny_bind (wpAny_mono h₁ (fun _ s₂ h₂ => wpAny_bind (wpAny_mono h₂ (fun ok s₃ h₃ => ?_) fun _ _ h' => h')) fun _ _ h' => h')
  cases ok with
  | false => exact wpAny_pure ⟨rfl, h₃⟩
  | true =>
   exact wpAny_bind (wpAny_bind (wpAny_mono h₃ (fun x s₄ h₄ => wpAny_bind (wpAny_mono h₄ (fun _ s₅ h₅ => wpAny_pure (wpAny_pure ⟨rfl, h₅⟩)) fun _ _ h' => h')) fun _ _ h' => h'))
end
section
variable {prog : Program} {w : World} {b₀ : Heap} {A : Around} {W0 : Wd} {st0 : St} {h0 : Heap} {csc : Sc} {cenv : Env} {up : Loc} {kk : FK} {v : V} {rv : Value} {It D : Addr} {q : Bool}
variable {eltM : Loc → M V} {condM : Loc → M Bool} {tg : List Nat} {elt target iter : Expr} {ifs : List Expr} {scope : Scope} {pos : Pos} {g : Array GenState} {dr : Drawn} {os : OsState} {r : Except Nat (List V)} {stF : St}
theorem turn_len {a m : Nat} (h : a + (m + 1) ≤ 4000) : a + m ≤ 4000 ∧ a + 1 + m ≤ 4000 ∧ a ≤ 4000 := ⟨Nat.le_of_succ_le h, by rw [Nat.add_assoc, Nat.add_comm 1 m]; exact h, Nat.le_trans (Nat.le_add_right ..) h⟩
theorem comp_turn (hh : q = true → A.handled = none) (cs : CS A h0 cenv It D) (hct : chkTg csc tg target = true)
  (helt : ∀ loc W st s, Inv prog w b₀ W st s.heap → FR w W st.n cenv (cxC csc) loc up s.heap → SK A W st.n s.heap → Sim prog w b₀ A (eval elt cenv) W st s (RlV w) (eltM loc st))
  (hcond : ∀ loc W st s, Inv prog w b₀ W st s.heap → FR w W st.n cenv (cxC csc) loc up s.heap → SK A W st.n s.heap →
   Sim prog w b₀ A (forIn ifs true fun c r => if r = true then do let ok ← isTrue c cenv (eval c cenv); pure (ForInStep.yield ok) else pure (ForInStep.yield r)) W st s RlB (condM loc st))
  {J Z : Shared → Prop} {E : Value → Shared → Prop} {m : Nat} {W : Wd} {st : St} {h : Heap} {tk i : Nat} {loc : Loc} {acc : List V} {vs : List Value} (x : CI prog w b₀ A W0 st0 h0 csc cenv up kk v rv It D W st h i loc acc vs)
  (e : compL q eltM condM tg kk v (m + 1) i loc acc st = some (r, stF)) (hz : acc.length + (m + 1) ≤ 4000)
  (hZ : ∀ h' tk, r = .ok acc → st = stF → Heap.ExtBut It h h' → Z ⟨h', g, dr, tk, os⟩)
  (hJ : ∀ W st h tk loc acc vs, CI prog w b₀ A W0 st0 h0 csc cenv up kk v rv It D W st h (i + 1) loc acc vs → compL q eltM condM tg kk v m (i + 1) loc acc st = some (r, stF) → acc.length + m ≤ 4000 → J ⟨h, g, dr, tk, os⟩) :
  wpAny (model prog w) A (pyNext (.ref It)) (fun r s₁ => match r with
   | none => Z s₁
   | some v => wpAny (model prog w) A (letOwnedTupleGo target (.ref It) v) (fun _ s₁ => wpAny (model prog w) A (assign target cenv v) (fun _ s₂ =>
     wpAny (model prog w) A (forIn ifs true fun c r => if r = true then do let ok ← isTrue c cenv (eval c cenv); pure (ForInStep.yield ok) else pure (ForInStep.yield r)) (fun ok s₃ =>
      if ok = true then wpAny (model prog w) A (eval elt cenv) (fun x s₄ => wpAny (model prog w) A (call (.builtin "list.append") [.ref D, x]) (fun _ s₅ => J s₅) E s₄) E s₃ else J s₃) E s₂) E s₁) E s₁) E ⟨h, g, dr, tk, os⟩ := by
 have hl := turn_len hz
 refine (onO_some e).elim fun o e => ?_
 cases o with
 | none =>
  have e2 := onP_some e.2
  have e3 := inj2 e2.2
  exact it_end (s := ⟨h, g, dr, tk, os⟩) (hh e2.1) x.inv x.rvl x.it e.1 fun h' tk' he => hZ h' tk' e3.1.symm e3.2 he
 | some u =>
  refine (onO_some e.2).elim fun loc' e2 => ?_
  refine it_next (s := ⟨h, g, dr, tk, os⟩) x.inv x.rvl x.it e.1 fun ru h1 tk1 Ru it1 hs1 => ?_
  have I1 := x.inv.touch x.oI.1 x.oI.2 hs1.extBut
  have F1 := x.fr.touch hs1.extBut cs.IC cs.cI
  refine let_go (s := ⟨h1, g, dr, tk1, os⟩) it1 (assign_tg (s := ⟨h1, g, dr, tk1, os⟩) hct e2.1 I1 F1 (x.sk.touch hs1.extBut cs.aI) Ru fun h2 tk2 F2 he2 => ?_)
  have x2 : CI prog w b₀ A W0 st0 h0 csc cenv up kk v rv It D W st h2 (i + 1) loc' acc vs := by
   refine x.pl.elim fun k eD => ?_
   exact ⟨I1.touch F1.out.1 F1.out.2 he2, (x.step.touch cs.nI hs1.extBut).touch cs.nC he2, F2, (x.sk.touch hs1.extBut cs.aI).touch he2 cs.aC, x.rvl, it1.keep (.refl _ st.n) (fun o e => he2 _ _ cs.IC e), ⟨k, he2 _ _ cs.DC (hs1.extBut _ _ (Ne.symm cs.ID) eD)⟩, x.rvs, x.oI, x.oD⟩
  refine (hcond loc' W st ⟨h2, g, dr, tk2, os⟩ x2.inv x2.fr x2.sk).goN e2.2 fun b rb W3 st1 h3 tk3 I3 S3 R3 e3 => ?_
  have x3 := x2.moved S3 I3
  cases (show b = rb from R3)
  cases b with
  | false => exact hJ W3 st1 h3 tk3 loc' acc vs x3 e3 hl.1
  | true =>
   refine (helt loc' W3 st1 ⟨h3, g, dr, tk3, os⟩ x3.inv x3.fr x3.sk).goN e3 fun y ry W4 st2 h4 tk4 I4 S4 R4 e4 => ?_
   have x4 := x3.moved S4 I4
   refine wpAny_list_append_plain x4.pl (fun h5 hl5 hs5 => ?_) (hsz := by rw [List.size_toArray, x4.rvs.length]; exact line_ten (Nat.le_trans hl.2.2 (by decide)))
   rw [List.push_toArray] at hl5
   exact hJ W4 st2 h5 tk4 loc' (acc ++ [y]) (vs ++ [ry]) ⟨x4.inv.touch x4.oD.1 x4.oD.2 hs5.extBut, x4.step.touch cs.nD hs5.extBut, x4.fr.touch hs5.extBut cs.DC cs.cD, x4.sk.touch hs5.extBut cs.aD, x4.rvl, x4.it.keep (.refl _ st2.n) (fun o e => hs5.extBut _ _ cs.ID e), hl5, RVs.append (RVs.single R4) x4.rvs, x4.oI, x4.oD⟩ e4 (by rw [lApp]; exact hl.2.1)
noncomputable def CL (prog : Program) (w : World) (b₀ : Heap) (A : Around) (W0 : Wd) (st0 : St) (h0 : Heap) (csc : Sc) (cenv : Env) (up : Loc) (kk : FK) (v : V) (rv : Value) (It D : Addr) (f : Nat → Nat → Loc → List V → M (List V)) (p : Except Nat (List V) × St) (g : Array GenState) (dr : Drawn) (os : OsState) (m : Nat) (s' : Shared) : Prop := ∀ C : Prop,
 (∀ W st h tk i loc acc vs, s' = ⟨h, g, dr, tk, os⟩ → CI prog w b₀ A W0 st0 h0 csc cenv up kk v rv It D W st h i loc acc vs → f m i loc acc st = some p → acc.length + m ≤ 4000 → C) → C
theorem comp_loop (hh : q = true → A.handled = none) (cs : CS A h0 cenv It D) (hct : chkTg csc tg target = true)
  (helt : ∀ loc W st s, Inv prog w b₀ W st s.heap → FR w W st.n cenv (cxC csc) loc up s.heap → SK A W st.n s.heap → Sim prog w b₀ A (eval elt cenv) W st s (RlV w) (eltM loc st))
  (hcond : ∀ loc W st s, Inv prog w b₀ W st s.heap → FR w W st.n cenv (cxC csc) loc up s.heap → SK A W st.n s.heap →
   Sim prog w b₀ A (forIn ifs true fun c r => if r = true then do let ok ← isTrue c cenv (eval c cenv); pure (ForInStep.yield ok) else pure (ForInStep.yield r)) W st s RlB (condM loc st))
  {R : Result → Shared → Prop}
  (hR : ∀ W h' tk xs vs, r = .ok xs → Inv prog w b₀ W stF h' → Step (fAddrs A) W0 st0 h0 W stF h' → h'.PlainList D vs.toArray → RVs w.params W stF.n xs vs → ¬ Owned W stF.n D ∧ W.B D = none → (∃ m, h'.Ns cenv.locals m) → ¬ Owned W stF.n cenv.locals ∧ W.B cenv.locals = none → R (.ok .next) ⟨h', g, dr, tk, os⟩)
  (m : Nat) {W : Wd} {st : St} {h : Heap} {tk i : Nat} {loc : Loc} {acc : List V} {vs : List Value} (x : CI prog w b₀ A W0 st0 h0 csc cenv up kk v rv It D W st h i loc acc vs) (e : compL q eltM condM tg kk v m i loc acc st = some (r, stF)) (hz : acc.length + m ≤ 4000) :
  codeAny (model prog w) A (.compLoop (.ListComp elt [⟨target, iter, ifs, 0⟩] scope pos) 0 (.ref It) (.ref D) cenv) R ⟨h, g, dr, tk, os⟩ := by
 refine comp_tests (CL prog w b₀ A W0 st0 h0 csc cenv up kk v rv It D (compL q eltM condM tg kk v) (r, stF) g dr os) (fun m s' H => H _ fun W st h tk i loc acc vs es x e hz => ?_) m (fun C k => k W st h tk i loc acc vs rfl x e hz)
 cases m with
 | zero => exact noC e
 | succ m =>
  rw [es]
  refine comp_turn hh cs hct helt hcond x e hz (fun h' tk' hr hst he => ?_) fun W st h tk loc acc vs x e hz => ⟨m, lts _, fun C k => k W st h tk (i + 1) loc acc vs rfl x e hz⟩
  have F := x.fr.touch he cs.IC cs.cI
  refine hR W h' tk' acc vs hr (hst ▸ x.inv.touch x.oI.1 x.oI.2 he) (hst ▸ x.step.touch cs.nI he) (x.pl.elim fun k e => ⟨k, he _ _ (Ne.symm cs.ID) e⟩) (hst ▸ x.rvs) (hst ▸ x.oD) (F.ns.elim fun mm hm => ⟨mm, hm.1⟩) (hst ▸ x.fr.out)
end
section
variable {prog : Program} {w : World} {b₀ : Heap} {K : Frag} {mg mb : Str → Option Value} {q : Bool} {n : Nat} {A : Around}
variable {sc : Sc} {env : Env} {loc up : Loc}
theorem comp_fr {W : Wd} {k : Nat} {h h' : Heap} {scope : Scope} {cl : List (Str × Addr)} {C : Addr} (F : FR w W k env (cxF sc) loc up h) (hsc : okScope sc scope = true) (hcl1 : ∀ y c, (y, c) ∈ cl → (y, c) ∈ env.cells) (hcl2 : ∀ y, scope.names.lookup y = some .free → ∃ c, cl.lookup y = some c ∧ env.cells.lookup y = some c)
  (hap : cl.Pairwise fun x y => x.2 ≠ y.2) (hk : ∀ b o, h.get? b = some o → h'.get? b = some o) (hn : ∃ m, h'.Ns C m) (hC : h.get? C = none) (hoC : ¬ Owned W k C ∧ W.B C = none) :
  FR w W k (compEnvC scope cl C env) (cxC scope.names) Loc.none loc h' := by
 have hs := hsc
 simp only [okScope, Bool.and_eq_true, decide_eq_true_eq, List.all_eq_true] at hs
 obtain ⟨⟨hkd, hnd⟩, hall⟩ := hs
 obtain ⟨m, hm⟩ := hn
 have kindEq : ∀ x, (compEnvC scope cl C env).kindOf x = (scope.names.lookup x).map fun k => if (k == NameKind.free && env.scope.kind == .function && env.kindOf x == some .cell) then NameKind.cell else k := fun x => lookup_relabel
 have key : ∀ {y : Str} {c : Addr} {v : Option Value}, h.IsCell c v → h'.IsCell c v := fun {y c v} z => let ⟨ob, e, d⟩ := z; ⟨ob, hk _ _ e, d⟩
 refine ⟨hkd, F.glob, F.bi, ⟨m, hm, fun x i hx v hv => by (exact noC hv)⟩, fun x i hx => ?_, fun x hx => ?_, fun x i hx => hx.elim, fun x i hx v hv => ?_, hoC, fun x c hc => ?_, hap⟩
 ·rw [kindEq, hx.1]; rfl
 ·rw [kindEq, show scope.names.lookup x = some .globalImplicit from hx]; rfl
 ·obtain ⟨h1, h2, h3⟩ := hx
  obtain ⟨c, e1, e2⟩ := hcl2 x h1
  have hcell := (hall _ (mem_of_lookup h1)).2
  simp only [bne_self_eq_false, Bool.false_or, Bool.and_eq_true, beq_iff_eq] at hcell
  obtain ⟨kc, c', o, e, hcc, hvv⟩ := F.cell x i ⟨hcell.1, h2, h3⟩
  rw [e2] at e; obtain rfl := inj1 e
  obtain ⟨rv, rfl, R⟩ := hvv v hv
  refine ⟨?_, c, rv, e1, key (y := x) hcc, R⟩
  rw [kindEq, h1]
  simp [F.kind, kc]
 ·obtain ⟨g1, g2, g3, o, ho⟩ := F.outc x c (hcl1 x c hc)
  refine ⟨g1, g2, fun e => ?_, o, key (y := x) ho⟩
  obtain ⟨ob, e', _⟩ := ho
  rw [e] at e'
  change h.get? C = _ at e'
  rw [hC] at e'; exact noC e'
theorem comp_free (sm : ∃ o, b₀.get? sysModules = some o) (hh : q = true → A.handled = none) {elt target iter : Expr} {ifs : List Expr} {scope : Scope} {pos p : Pos} {tg : List Nat} {kk : FK} {mi : M V × M Bool} {me : Loc → M V × M Bool} {mc : Loc → M Bool}
  (hns : notSet iter = true) (hsc : okScope sc scope = true) (hct : chkTg scope.names tg target = true) (hi : OkE prog w b₀ A sc false env loc up iter mi)
  (he : ∀ env' l, OkE prog w b₀ A scope.names true env' l loc elt (me l))
  (hcd : ∀ env' l W st s, Inv prog w b₀ W st s.heap → FR w W st.n env' (cxC scope.names) l loc s.heap → SK A W st.n s.heap →
   Sim prog w b₀ A (forIn ifs true fun c r => if r = true then do let ok ← isTrue c env' (eval c env'); pure (ForInStep.yield ok) else pure (ForInStep.yield r)) W st s RlB (mc l st))
  {W : Wd} {st : St} {s : Shared} (I : Inv prog w b₀ W st s.heap) (F : FR w W st.n env (cxF sc) loc up s.heap) (K : SK A W st.n s.heap)
  {use : Option (Value → Sem Unit)} {Q : Value → Shared → Prop} {E : Value → Shared → Prop} {r : Except Nat (List V)} {stF : St}
  (e : (mi.1.bind fun v => (lockV kk v).bind fun _ => compL q (fun l => (me l).1) mc tg kk v fuelW 0 Loc.none []) st = some (r, stF))
  (hok : ∀ xs D C W' h' tk vs, r = .ok xs → Inv prog w b₀ W' stF h' → Step (fAddrs A) W st s.heap W' stF h' → h'.PlainList D vs.toArray → RVs w.params W' stF.n xs vs → (¬ Owned W' stF.n D ∧ W'.B D = none) → (∃ m, h'.Ns C m) → (¬ Owned W' stF.n C ∧ W'.B C = none) →
   s.heap.get? D = none → s.heap.get? C = none → D ≠ C → compPost (model prog w) A E use Q (.ref D) C (.ok .next) ⟨h', s.gens, s.drawn, tk, s.os⟩)
  (herr : ∀ c ex W' h' tk, r = .error c → ExPost prog w b₀ A W st s.heap W' stF h' c ex → E ex ⟨h', s.gens, s.drawn, tk, s.os⟩) :
  wpAny (model prog w) A (comprehension (.ListComp elt [⟨target, iter, ifs, 0⟩] scope pos) scope env p (newList []) false (eval iter env) use) Q E s := by
 obtain ⟨cl, hclos, hcl1, hcl2, hap⟩ := clos_for F hsc
 have hs := hsc
 simp only [okScope, Bool.and_eq_true, decide_eq_true_eq, List.all_eq_true] at hs
 obtain ⟨⟨hkd, hnd⟩, hall⟩ := hs
 refine wpAny_comprehension_free (g := ⟨target, iter, ifs, 0⟩) (gs := []) rfl (fun x => ?_) hclos hkd (fun y hy hl => ?_) ?_
 ·cases iter <;> first | rfl | (exact nfC hns)
 ·have := (hall y hy).1.2
  rw [hl] at this
  simpa using this
 refine (hi W st s I F K).1.go e (fun v rv W1 st1 h1 tk1 I1 S1 R1 e => ?_) herr
 obtain ⟨u2, st2, q2, e⟩ : ∃ u st2, lockV kk v st1 = some (u, st2) ∧ (u = .ok () → compL q (fun l => (me l).1) mc tg kk v fuelW 0 Loc.none [] st2 = some (r, stF)) := by
  unfold M.bind at e
  cases q2 : lockV kk v st1 with
  | none => rw [q2] at e; exact noC e
  | some p2 => rw [q2] at e; exact ⟨p2.1, p2.2, rfl, fun z => by obtain ⟨a, b⟩ := p2; (obtain rfl := (z : _ = _)); exact e⟩
 have F1 := F.step S1
 have K1 := K.step S1
 refine it_start (s := ⟨h1, s.gens, s.drawn, tk1, s.os⟩) sm I1 R1 q2 fun W2 h2 eu I2 S2 R2 it2 hIn oIt => ?_
 subst eu
 have F2 := F1.step S2
 have K2 := K1.step S2
 obtain ⟨oI, hoI⟩ := it2.there
 have hDn : h2.get? h2.objs.size = none := Heap.get?_none_of_le (Nat.le_refl _)
 have hDI : h1.objs.size ≠ h2.objs.size := Nat.ne_of_lt (Heap.lt_size hoI)
 refine wpAny_newObj_type ?_ (by size_fits)
 have hpD : (h2.push { cls := .type "list", data := .seq ([] : List Value).toArray }).get? h2.objs.size = some { cls := .type "list", data := .seq ([] : List Value).toArray } := Heap.get?_push_size _ rfl
 have k3 : ∀ b o, h2.get? b = some o → (h2.push { cls := .type "list", data := .seq ([] : List Value).toArray }).get? b = some o := fun b o e => Heap.get?_push_of_some _ e
 have hCn : (h2.push { cls := .type "list", data := .seq ([] : List Value).toArray }).get? (h2.push { cls := .type "list", data := .seq ([] : List Value).toArray }).objs.size = none := Heap.get?_none_of_le (Nat.le_refl _)
 refine wpAny_newFunctionEnv (fun y hy => ?_) (by intro y hy; simp at hy) (fun h4 hns4 hsb4 => ?_) hkd
 ·have := (hall y hy).1.1
  simpa using this
 dsimp only at hns4 hsb4 ⊢
 generalize hC : (h2.push { cls := .type "list", data := .seq ([] : List Value).toArray }).objs.size = C at hCn hns4 hsb4 ⊢
 have hC2 : h2.get? C = none := by
  cases q : h2.get? C with
  | none => rfl
  | some o => rw [k3 _ _ q] at hCn; exact nsC hCn
 have hDC : h2.objs.size ≠ C := fun q => by rw [← q, hpD] at hCn; exact nsC hCn
 have hIC : h1.objs.size ≠ C := fun q => by rw [← q, k3 _ _ hoI] at hCn; exact nsC hCn
 have k4 : ∀ b o, h2.get? b = some o → h4.get? b = some o := fun b o e => hsb4.extBut b o (fun q => by rw [q, hC2] at e; (exact noC e)) (Heap.get?_push_of_some _ (k3 _ _ e))
 have hpD4 : h4.get? h2.objs.size = some { cls := .type "list", data := .seq ([] : List Value).toArray } := hsb4.extBut _ _ hDC (Heap.get?_push_of_some _ hpD)
 obtain ⟨nO, nB⟩ := not_owned_fresh I2 hC2
 obtain ⟨nOD, nBD⟩ := not_owned_fresh I2 hDn
 have S02 := S1.trans I1 S2
 have I4 := I2.kept k4
 have S04 : Step (fAddrs A) W st s.heap W2 st2 h4 := S02.trans I2 (.of_kept k4)
 have Fc : FR w W2 st2.n (compEnvC scope cl C env) (cxC scope.names) Loc.none loc h4 := comp_fr F2 hsc hcl1 hcl2 hap k4 ⟨_, hns4⟩ hC2 ⟨nO, nB⟩
 have cs : CS A s.heap (compEnvC scope cl C env) h1.objs.size h2.objs.size :=
  ⟨S1.noneB I1 hIn, S02.noneB I2 hDn, S02.noneB I2 hC2, hDI, hIC, hDC, K1.notMem hIn, K2.notMem hDn, K2.notMem hC2, fun y c hc => F1.notCell hIn y c (hcl1 y c hc), fun y c hc => F2.notCell hDn y c (hcl1 y c hc)⟩
 have x : CI prog w b₀ A W st s.heap scope.names (compEnvC scope cl C env) loc kk v rv h1.objs.size h2.objs.size W2 st2 h4 0 Loc.none [] [] :=
  ⟨I4, S04, Fc, K2.step (.of_kept k4), R2, it2.keep (.refl _ st2.n) (fun o e => k4 _ _ e), ⟨_, hpD4⟩, rfl, oIt, ⟨nOD, nBD⟩⟩
 have loop : ∀ tk, codeAny (model prog w) A (.compLoop (.ListComp elt [⟨target, iter, ifs, 0⟩] scope pos) 0 (.ref h1.objs.size) (.ref h2.objs.size) (compEnvC scope cl C env)) (compPost (model prog w) A E use Q (.ref h2.objs.size) C) ⟨h4, s.gens, s.drawn, tk, s.os⟩ := fun tk =>
  comp_loop (elt := elt) (iter := iter) (ifs := ifs) (scope := scope) (pos := pos) hh cs hct (fun l W st s I F K => (he _ l W st s I F K).1) (fun l W st s I F K => hcd _ l W st s I F K)
   (fun W' h' tk' xs vs hr I' S' pl Rs oD nsC oC => hok xs _ _ W' h' tk' vs hr I' S' pl Rs oD nsC oC cs.nD cs.nC hDC) fuelW x (e rfl) (by decide)
 refine codeAny_compStart_list (loop _) ?_
 exact it_self x.it (loop _)
end
section
variable {prog : Program} {w : World} {b₀ : Heap} {K : Frag} {mg mb : Str → Option Value} {call : Addr → List V → M V} {q : Bool} {n : Nat} {A : Around}
variable {sc : Sc} {inC : Bool} {env : Env} {loc up : Loc}
theorem adopt_list {W W' : Wd} {st stF : St} {h h' : Heap} {D : Addr} {xs : List V} {vs : List Value} (I : Inv prog w b₀ W' stF h') (S : Step (fAddrs A) W st h W' stF h') (pl : h'.PlainList D vs.toArray) (Rs : RVs w.params W' stF.n xs vs) (oD : ¬ Owned W' stF.n D ∧ W'.B D = none) (nD : h.get? D = none) :
  ∃ W2, Inv prog w b₀ W2 (stF.push (.list xs)) h' ∧ Step (fAddrs A) W st h W2 (stF.push (.list xs)) h' ∧ RV w.params W2 (stF.n + 1) (.ref stF.n) (.ref D) := by
 obtain ⟨k, eD⟩ := id pl
 obtain ⟨I2, S2⟩ := I.adopt (d := D) (ob := .list xs) oD.1 oD.2 (Heap.SameBut.refl ..) ⟨_, eD⟩ ⟨vs, by rw [Wd.slot_ρ]; exact pl.isList, Rs.mono W'.le_slot (Nat.le_succ _), fun o q => by rw [Wd.slot_ρ, eD] at q; cases q; exact ⟨rfl, rfl⟩⟩ S nD
 exact ⟨_, I2, S2, ⟨by rw [Wd.slot_ρ], lts _⟩⟩
theorem ok_comp (sm : ∃ o, b₀.get? sysModules = some o) (hh : q = true → A.handled = none) {elt target iter : Expr} {ifs : List Expr} {scope : Scope} {pos : Pos} {tg : List Nat} {kk : FK} {mi : M V × M Bool} {me : Loc → M V × M Bool} {mc : Loc → M Bool}
  (hns : notSet iter = true) (hsc : okScope sc scope = true) (hct : chkTg scope.names tg target = true) (hi : OkE prog w b₀ A sc false env loc up iter mi)
  (he : ∀ env' l, OkE prog w b₀ A scope.names true env' l loc elt (me l))
  (hcd : ∀ env' l W st s, Inv prog w b₀ W st s.heap → FR w W st.n env' (cxC scope.names) l loc s.heap → SK A W st.n s.heap →
   Sim prog w b₀ A (forIn ifs true fun c r => if r = true then do let ok ← isTrue c env' (eval c env'); pure (ForInStep.yield ok) else pure (ForInStep.yield r)) W st s RlB (mc l st)) :
  OkE prog w b₀ A sc false env loc up (.ListComp elt [⟨target, iter, ifs, 0⟩] scope pos) (trV (mi.1.bind fun v => (lockV kk v).bind fun _ => (compL q (fun l => (me l).1) mc tg kk v fuelW 0 Loc.none []).bind fun xs => mPush (.list xs))) := by
 refine OkE.tr rfl fun W st s I F K => ?_
 have e0 : (mi.1.bind fun v => (lockV kk v).bind fun d => (compL q (fun l => (me l).1) mc tg kk v fuelW 0 Loc.none []).bind fun xs => mPush (.list xs)) =
   (mi.1.bind fun v => (lockV kk v).bind fun d => compL q (fun l => (me l).1) mc tg kk v fuelW 0 Loc.none []).bind fun xs => mPush (.list xs) := by
  rw [M.bind_assoc]; congr 1; funext v; rw [M.bind_assoc]
 rw [e0, eval_ListComp]
 intro r st' e Q E hQ hE
 generalize hm : (mi.1.bind fun v => (lockV kk v).bind fun d => compL q (fun l => (me l).1) mc tg kk v fuelW 0 Loc.none []) = mm at e
 unfold M.bind at e
 cases q1 : mm st with
 | none => rw [q1] at e; cases e
 | some p1 =>
  obtain ⟨r1, stF⟩ := p1
  rw [q1] at e
  subst hm
  refine comp_free (use := none) sm hh hns hsc hct hi he hcd I F K q1 (fun xs D C W' h' tk vs hr I' S' pl Rs oD nsC oC nD nC hDC => ?_) fun c ex W' h' tk hr X => ?_
  ·subst hr
   cases e
   obtain ⟨m, hm⟩ := nsC
   refine ⟨m, hm, fun h2 hs2 => ?_⟩
   obtain ⟨W3, I3, S3, R3⟩ := adopt_list (I'.touch oC.1 oC.2 hs2.extBut) (S'.touch nC hs2.extBut) (pl.at fun o e => hs2.extBut _ _ hDC e) Rs oD nD
   exact hQ _ _ W3 h2 tk rfl I3 S3 R3
  ·subst hr
   cases e
   exact hE c ex W' h' tk rfl X
theorem dead_ok {e : Expr} : OkE prog w b₀ A sc inC env loc up e (trV M.fail) := fun W st s I F K => ⟨Sim.nothing, Sim.nothing⟩
structure OkB (prog : Program) (w : World) (b₀ : Heap) (A : Around) (sc : Sc) (inC : Bool) (env : Env) (loc up : Loc) (es : List Expr) (an ora : M V) (al ay : M Bool) : Prop where
 and : ∀ pos W st s, Inv prog w b₀ W st s.heap → FR w W st.n env (cxOf sc inC) loc up s.heap → SK A W st.n s.heap → Sim prog w b₀ A (boolOp pos .And (evalEach es env)) W st s (RlV w) (an st)
 or : ∀ pos W st s, Inv prog w b₀ W st s.heap → FR w W st.n env (cxOf sc inC) loc up s.heap → SK A W st.n s.heap → Sim prog w b₀ A (boolOp pos .Or (evalEach es env)) W st s (RlV w) (ora st)
 all : ∀ W st s, Inv prog w b₀ W st s.heap → FR w W st.n env (cxOf sc inC) loc up s.heap → SK A W st.n s.heap → Sim prog w b₀ A (allTrue .And es env) W st s RlB (al st)
 any : ∀ W st s, Inv prog w b₀ W st s.heap → FR w W st.n env (cxOf sc inC) loc up s.heap → SK A W st.n s.heap → Sim prog w b₀ A (allTrue .Or es env) W st s RlB (ay st)
noncomputable def Es.isNil : Es → Bool | .nil => true | .cons .. => false
theorem ok_evB {e : E} {r : Es} {x : Expr} {xs : List Expr} (he : OkE prog w b₀ A sc inC env loc up x (ev2 call q loc up e))
  (hr : OkB prog w b₀ A sc inC env loc up xs (evAnd call q loc up r) (evOr call q loc up r) (evAllB call q loc up r) (evAnyB call q loc up r)) (hn : r.isNil = xs.isEmpty) :
  OkB prog w b₀ A sc inC env loc up (x :: xs) (evAnd call q loc up (.cons e r)) (evOr call q loc up (.cons e r)) (evAllB call q loc up (.cons e r)) (evAnyB call q loc up (.cons e r)) := by
 refine ⟨fun pos W st s I F K => ?_, fun pos W st s I F K => ?_, fun W st s I F K => ?_, fun W st s I F K => ?_⟩
 ·cases r with
  | nil => cases xs with
   | nil => exact (he W st s I F K).1
   | cons _ _ => cases hn
  | cons e2 r2 => cases xs with
   | nil => cases hn
   | cons y ys =>
    have z := ok_bool1 (op := .And) (pos := pos) he I F K (fun W st s I F K => hr.and pos W st s I F K)
    refine (congrArg (fun m : M V => Sim prog w b₀ A _ W st s (RlV w) (m st)) (show _ = (ev2 call q loc up e).1.bind fun v => (truthV v).bind fun t => if t then evAnd call q loc up (.cons e2 r2) else M.pure v from ?_)).mp z
    congr 1; funext v; congr 1; funext t; cases t <;> rfl
 ·cases r with
  | nil => cases xs with
   | nil => exact (he W st s I F K).1
   | cons _ _ => cases hn
  | cons e2 r2 => cases xs with
   | nil => cases hn
   | cons y ys =>
    have z := ok_bool1 (op := .Or) (pos := pos) he I F K (fun W st s I F K => hr.or pos W st s I F K)
    refine (congrArg (fun m : M V => Sim prog w b₀ A _ W st s (RlV w) (m st)) (show _ = (ev2 call q loc up e).1.bind fun v => (truthV v).bind fun t => if t then M.pure v else evOr call q loc up (.cons e2 r2) from ?_)).mp z
    congr 1; funext v; congr 1; funext t; cases t <;> rfl
 ·show Sim prog w b₀ A (isTrue x env (eval x env) >>= fun b => match BoolOp.And, b with | .And, false => pure false | .Or, true => pure true | _, _ => allTrue .And xs env) W st s RlB _
  refine Sim.bind (he W st s I F K).2 fun b rb W' st' h' tk I' S' R' => ?_
  cases R'
  cases b
  ·exact Sim.pure I' rfl
  ·exact hr.all W' st' _ I' (F.step S') (K.step S')
 ·show Sim prog w b₀ A (isTrue x env (eval x env) >>= fun b => match BoolOp.Or, b with | .And, false => pure false | .Or, true => pure true | _, _ => allTrue .Or xs env) W st s RlB _
  refine Sim.bind (he W st s I F K).2 fun b rb W' st' h' tk I' S' R' => ?_
  cases R'
  cases b
  ·exact hr.any W' st' _ I' (F.step S') (K.step S')
  ·exact Sim.pure I' rfl
theorem chkEs_len {r : Es} {xs : List Expr} (h : chkEs sc inC r xs = true) : r.isNil = xs.isEmpty := by
 cases r with
 | nil => exact (show xs.isEmpty = true from h).symm
 | cons e r => cases xs with
  | nil => cases h
  | cons _ _ => rfl
theorem noneE_of {o : Option Expr} (h : noneE o = true) : o = none := by
 cases o with
 | none => rfl
 | some _ => cases h
noncomputable def okIfs (nm : Sc) (cond : Option E) (ifs : List Expr) : Bool := match cond with
 | none => ifs.isEmpty
 | some c => (one ifs).any fun i => chkE nm true c i
theorem compG {g : Comprehension} (h : g.is_async = 0) : g = ⟨g.target, g.iter, g.ifs, 0⟩ := by
 cases g with
 | mk a b c d => exact congrArg (Comprehension.mk a b c) h
section
variable {x : Expr} {C : Expr → Prop} {e a b c i o : E} {es args : Es}
theorem p_comp {k : FK} {elt it : E} {tg : List Nat} {cond : Option E} (h : chkE sc inC (.comp k elt tg it cond) x = true) (k' : ∀ el target iter ifs scope pos, inC = false → notSet iter = true → okScope sc scope = true → chkTg scope.names tg target = true → chkE sc inC it iter = true → chkE scope.names true elt el = true → okIfs scope.names cond ifs = true → C (.ListComp el [⟨target, iter, ifs, 0⟩] scope pos)) : C x := by
 have h' : ((xComp x).any fun x => (one x.2.1).any fun g => decide (g.is_async = 0) && (!inC && (notSet g.iter && (okScope sc x.2.2 && (chkTg x.2.2.names tg g.target && (chkE sc inC it g.iter && (chkE x.2.2.names true elt x.1 && okIfs x.2.2.names cond g.ifs))))))) = true := by cases cond <;> exact h
 exact viewC xComp_of h' fun d q g => oneC (C := fun l => C (.ListComp d.1 l d.2.2 q)) g fun u g => andC g fun g1 g => andC g fun g2 g => andC g fun g3 g => andC g fun g4 g => andC g fun g5 g => andC g fun g6 g => andC g fun g7 g8 =>
  Eq.mpr (congrArg (fun u => C (.ListComp d.1 [u] d.2.2 q)) (compG (odt g1))) (k' d.1 u.target u.iter u.ifs d.2.2 q ((Bool.not_eq_true' inC).mp g2) g3 g4 g5 g6 g7 g8)
theorem p_attr {f : Nat} (h : chkE sc inC (.attr e f) x = true) (k : ∀ v p, notSuper v = true → chkE sc inC e v = true → C (.Attribute v (fname f) p)) : C x :=
 anyC h fun d hd g => andC g fun g1 g => andC g fun g2 g3 => (xAttr_of hd).elim fun ap h => by rw [h.2, beq_iff_eq.mp g1]; exact k d.1 ap g2 g3
theorem p_idx {t : IK} (h : chkE sc inC (.idx t e i) x = true) (k : ∀ v s q, plainSlice s = true → chkE sc inC e v = true → chkE sc inC i s = true → C (.Subscript v s q)) : C x :=
 viewC xSub_of h fun d q g => andC g fun g1 g => andC g fun g2 g3 => k d.1 d.2 q g1 g2 g3
theorem p_pre (h : chkE sc inC (.pre e i) x = true) (k : ∀ v u q q2, chkE sc inC e v = true → chkE sc inC i u = true → C (.Subscript v (.Slice none (some u) none q2) q)) : C x :=
 viewC xSub_of h fun d q g => viewC (C := fun u => C (.Subscript d.1 u q)) xUpto_of g fun s q2 g => andC g fun g1 g => andC g fun g2 g => andC g fun g3 g => anyC g fun u hu g5 => by rw [noneE_of g1, noneE_of g2, hu]; exact k d.1 u q q2 g3 g5
theorem p_bin {t : Op} (h : chkE sc inC (.bin t a b) x = true) (k : ∀ l r q, chkE sc inC a l = true → chkE sc inC b r = true → C (.BinOp l (opOf t) r q)) : C x :=
 viewC xBin_of h fun d q g => andC g fun g1 g => andC g fun g2 g3 => by rw [beq_iff_eq.mp g1]; exact k d.1 d.2.2 q g2 g3
theorem p_cmp {t : CK} {ng : Bool} (h : chkE sc inC (.cmp t ng a b) x = true) (k : ∀ l r q, notSet r = true → chkE sc inC a l = true → chkE sc inC b r = true → C (.Compare l [ckOp t ng] [r] q)) : C x :=
 viewC xCmp_of h fun d q g => oneC (C := fun l => C (.Compare d.1 l d.2.2 q)) g fun op g => oneC (C := fun l => C (.Compare d.1 [op] l q)) g fun r g => andC g fun g1 g => andC g fun g2 g => andC g fun g3 g4 => by rw [odt g1]; exact k d.1 r q g2 g3 g4
theorem p_cmp2 {t u : CK} (h : chkE sc inC (.cmp2 t u a b c) x = true) (k : ∀ l r1 r2 q, notSet r2 = true → chkE sc inC a l = true → chkE sc inC b r1 = true → chkE sc inC c r2 = true → C (.Compare l [ckOp t false, ckOp u false] [r1, r2] q)) : C x :=
 viewC xCmp_of h fun d q g => twoC (C := fun l => C (.Compare d.1 l d.2.2 q)) g fun op g => twoC (C := fun l => C (.Compare d.1 [op.1, op.2] l q)) g fun r g => andC g fun g1 g => andC g fun g2 g => andC g fun g3 g => andC g fun g4 g => andC g fun g5 g6 => by
  rw [odt g1, odt g2]; exact k d.1 r.1 r.2 q g3 g4 g5 g6
theorem p_and (h : chkE sc inC (.and es) x = true) (k : ∀ vs q, chkEs sc inC es vs = true → C (.BoolOp .And vs q)) : C x := viewC xBool_of h fun d q g => andC g fun g1 g2 => by rw [odt g1]; exact k d.2 q g2
theorem p_or (h : chkE sc inC (.or es) x = true) (k : ∀ vs q, chkEs sc inC es vs = true → C (.BoolOp .Or vs q)) : C x := viewC xBool_of h fun d q g => andC g fun g1 g2 => by rw [odt g1]; exact k d.2 q g2
theorem p_not (h : chkE sc inC (.not e) x = true) (k : ∀ v q, chkE sc inC e v = true → C (.UnaryOp .Not v q)) : C x := viewC xUn_of h fun d q g => andC g fun g1 g2 => by rw [odt g1]; exact k d.2 q g2
theorem p_neg (h : chkE sc inC (.neg e) x = true) (k : ∀ v q, chkE sc inC e v = true → C (.UnaryOp .USub v q)) : C x := viewC xUn_of h fun d q g => andC g fun g1 g2 => by rw [odt g1]; exact k d.2 q g2
theorem p_ite (h : chkE sc inC (.ite c a b) x = true) (k : ∀ u v w q, chkE sc inC c u = true → chkE sc inC a v = true → chkE sc inC b w = true → C (.IfExp u v w q)) : C x :=
 viewC xIf_of h fun d q g => andC g fun g1 g => andC g fun g2 g3 => k d.1 d.2.1 d.2.2 q g1 g2 g3
theorem p_lst (h : chkE sc inC (.lst es) x = true) (k : ∀ vs q, chkEs sc inC es vs = true → C (.List vs q)) : C x := viewC xList_of h k
theorem p_tup (h : chkE sc inC (.tup es) x = true) (k : ∀ vs n q, chkEs sc inC es vs = true → C (.Tuple vs n q)) : C x := viewC xTup_of h fun vs q g => k vs q.1 q.2 g
theorem p_dct {ks : List DK} (h : chkE sc inC (.dct ks es) x = true) (k : ∀ a b q, chkDKs ks a = true → a.length = b.length → a.length ≤ 15 → (ks.all DK.isS || ks.all DK.isI) = true → chkEs sc inC es b = true → C (.Dict a b q)) : C x :=
 viewC xDict_of h fun d q g => andC g fun g1 g => andC g fun g2 g => andC g fun g3 g => andC g fun g4 g5 => k d.1 d.2 q g1 (odt g2) (odt g3) g4 g5
theorem callC {P : Str → Bool} {R : List Expr → Bool} (h : ((xCall x).any fun x => x.2.2.1.isEmpty && (chkNm P x.1 && R x.2.1)) = true) (k : ∀ y yp as pos, P y = true → R as = true → C (.Call (.Name y yp) as [] pos)) : C x :=
 viewE xCall_of h fun c g => andC g fun g1 g => andC g fun g2 g3 => nilC (C := fun l => C (.Call c.1 c.2.1 l c.2.2.2)) g1 (nmC (C := fun f => C (.Call f c.2.1 [] c.2.2.2)) g2 fun y yp g4 => k y yp c.2.1 c.2.2.2 g4 g3)
theorem methC {nm : Str} {R1 : Expr → Bool} {R2 : List Expr → Bool} (h : ((xCall x).any fun x => x.2.2.1.isEmpty && ((xAttr x.1).any fun a => a.2.1 == nm && ((a.2.2.endLine == x.2.2.2.line) && R1 a.1) && R2 x.2.1)) = true) (k : ∀ v ap as pos, (Pos.endLine ap == Pos.line pos) = true → R1 v = true → R2 as = true → C (.Call (.Attribute v nm ap) as [] pos)) : C x :=
 viewE xCall_of h fun c g => andC g fun g1 g => nilC (C := fun l => C (.Call c.1 c.2.1 l c.2.2.2)) g1 (anyC g fun a ha g => andC g fun g2 g3 => andC g2 fun g4 g5 => andC g5 fun g6 g7 => (xAttr_of ha).elim fun ap hh => by
  rw [hh.2, beq_iff_eq.mp g4, hh.1]; exact k a.1 a.2.2 c.2.1 c.2.2.2 g6 g7 g3)
theorem p_isin {t : Ty} (h : chkE sc inC (.isin e t) x = true) (k : ∀ (_ : Unit) yp a ty tp pos, isGlob sc "isinstance" = true → True → isGlob sc ty = true → (gtys.any fun p => decide (p.1 = ty) && tyVal p.2 == tyVal t) = true → isStar a = false → chkE sc inC e a = true → C (.Call (.Name "isinstance" yp) [a, .Name ty tp] [] pos)) : C x :=
 callC (R := fun (l : List Expr) => (two l).any fun (a : Expr × Expr) => chkNm (fun b => isGlob sc b && gtys.any fun p => decide (p.1 = b) && tyVal p.2 == tyVal t) a.2 && (!isStar a.1 && chkE sc inC e a.1)) h fun y yp as pos g g3 => andC g fun g5 g6 => twoC (C := fun l => C (.Call (.Name y yp) l [] pos)) g3 fun d g => andC g fun g7 g => andC g fun g8 g9 =>
  nmC (C := fun u => C (.Call (.Name y yp) [d.1, u] [] pos)) g7 fun ty q2 g10 => andC g10 fun g11 g12 => by
   rw [beq_iff_eq.mp g6] at g5 ⊢
   exact k () yp d.1 ty q2 pos g5 trivial g11 g12 ((Bool.not_eq_true' _).mp g8) g9
end
theorem ok_and {vs : List Expr} {pos : Pos} {an ora : M V} {al ay : M Bool} (y : OkB prog w b₀ A sc inC env loc up vs an ora al ay) : OkE prog w b₀ A sc inC env loc up (.BoolOp .And vs pos) (an, al) := fun W st s I F K => ⟨y.and _ W st s I F K, y.all W st s I F K⟩
theorem ok_or {vs : List Expr} {pos : Pos} {an ora : M V} {al ay : M Bool} (y : OkB prog w b₀ A sc inC env loc up vs an ora al ay) : OkE prog w b₀ A sc inC env loc up (.BoolOp .Or vs pos) (ora, ay) := fun W st s I F K => ⟨y.or _ W st s I F K, y.any W st s I F K⟩
mutual
theorem sim_ev (G : Gd w K b₀ mg mb) (R : RB n q A) (HC : CallOk prog w b₀ call q n) (HN : NewOk prog w b₀ call q n) : ∀ (e' : E) {sc : Sc} {inC : Bool} {env : Env} {loc up : Loc} {x : Expr}, chkE sc inC e' x = true → OkE prog w b₀ A sc inC env loc up x (ev2 call q loc up e')
 | .dead, sc, inC, env, loc, up, x, h => dead_ok
 | .lit v, sc, inC, env, loc, up, x, h => ok_lit G h
 | .loc i, sc, inC, env, loc, up, x, h => nmC (C := fun x => OkE prog w b₀ A sc inC env loc up x (ev2 call q loc up (.loc i))) h fun y p g => ok_loc g
 | .up i, sc, inC, env, loc, up, x, h => nmC (C := fun x => OkE prog w b₀ A sc inC env loc up x (ev2 call q loc up (.up i))) h fun y p g => ok_up g
 | .attr e f, sc, inC, env, loc, up, x, h => p_attr (C := fun x => OkE prog w b₀ A sc inC env loc up x (ev2 call q loc up (.attr e f))) h fun v p g2 g3 => ok_attr G g2 (sim_ev G R HC HN e g3)
 | .idx k e i, sc, inC, env, loc, up, x, h => p_idx (C := fun x => OkE prog w b₀ A sc inC env loc up x (ev2 call q loc up (.idx k e i))) h fun v s p g1 g2 g3 => ok_idx G R g1 (sim_ev G R HC HN e g2) (sim_ev G R HC HN i g3)
 | .pre e k, sc, inC, env, loc, up, x, h => p_pre (C := fun x => OkE prog w b₀ A sc inC env loc up x (ev2 call q loc up (.pre e k))) h fun v u p p2 g3 g5 => ok_pre (sim_ev G R HC HN e g3) (sim_ev G R HC HN k g5)
 | .bin o a b, sc, inC, env, loc, up, x, h => p_bin (C := fun x => OkE prog w b₀ A sc inC env loc up x (ev2 call q loc up (.bin o a b))) h fun l r p g2 g3 => ok_bin (sim_ev G R HC HN a g2) (sim_ev G R HC HN b g3)
 | .cmp o ng a b, sc, inC, env, loc, up, x, h => p_cmp (C := fun x => OkE prog w b₀ A sc inC env loc up x (ev2 call q loc up (.cmp o ng a b))) h fun l r p g2 g3 g4 => ok_cmp G R g2 (sim_ev G R HC HN a g3) (sim_ev G R HC HN b g4)
 | .cmp2 o1 o2 a b c, sc, inC, env, loc, up, x, h => p_cmp2 (C := fun x => OkE prog w b₀ A sc inC env loc up x (ev2 call q loc up (.cmp2 o1 o2 a b c))) h fun l r1 r2 p g3 g4 g5 g6 => ok_cmp2 G R g3 (sim_ev G R HC HN a g4) (sim_ev G R HC HN b g5) (sim_ev G R HC HN c g6)
 | .and es, sc, inC, env, loc, up, x, h => p_and (C := fun x => OkE prog w b₀ A sc inC env loc up x (ev2 call q loc up (.and es))) h fun vs p g2 => ok_and (sim_evB G R HC HN es g2)
 | .or es, sc, inC, env, loc, up, x, h => p_or (C := fun x => OkE prog w b₀ A sc inC env loc up x (ev2 call q loc up (.or es))) h fun vs p g2 => ok_or (sim_evB G R HC HN es g2)
 | .not e, sc, inC, env, loc, up, x, h => p_not (C := fun x => OkE prog w b₀ A sc inC env loc up x (ev2 call q loc up (.not e))) h fun v p g2 => ok_not (sim_ev G R HC HN e g2)
 | .neg e, sc, inC, env, loc, up, x, h => p_neg (C := fun x => OkE prog w b₀ A sc inC env loc up x (ev2 call q loc up (.neg e))) h fun v p g2 => ok_neg (sim_ev G R HC HN e g2)
 | .ite c a b, sc, inC, env, loc, up, x, h => p_ite (C := fun x => OkE prog w b₀ A sc inC env loc up x (ev2 call q loc up (.ite c a b))) h fun u v t p g1 g2 g3 => ok_ite (sim_ev G R HC HN c g1) (sim_ev G R HC HN a g2) (sim_ev G R HC HN b g3)
 | .lst es, sc, inC, env, loc, up, x, h => p_lst (C := fun x => OkE prog w b₀ A sc inC env loc up x (ev2 call q loc up (.lst es))) h fun vs p g => ok_lst (sim_evs G R HC HN es g).es.1
 | .tup es, sc, inC, env, loc, up, x, h => p_tup (C := fun x => OkE prog w b₀ A sc inC env loc up x (ev2 call q loc up (.tup es))) h fun vs m p g => ok_tup (sim_evs G R HC HN es g).es.1
 | .dct ks vs, sc, inC, env, loc, up, x, h => p_dct (C := fun x => OkE prog w b₀ A sc inC env loc up x (ev2 call q loc up (.dct ks vs))) h fun a b p g1 g2 g3 g4 g5 => ok_dct (sim_evs G R HC HN vs g5) ks _ g1 g2 g3 g4
 | .comp k elt tg it none, sc, inC, env, loc, up, x, h => p_comp (C := fun x => OkE prog w b₀ A sc inC env loc up x (ev2 call q loc up (.comp k elt tg it none))) h fun el target iter ifs scope pos g2 g3 g4 g5 g6 g7 g8 => by
  subst g2
  rw [List.isEmpty_iff.mp g8]
  exact ok_comp (mc := fun _ => M.pure true) G.md.sm R.hd g3 g4 g5 (sim_ev G R HC HN it g6) (fun env' l => sim_ev G R HC HN elt g7) fun env' l W st s I F K => Sim.pure I rfl
 | .comp k elt tg it (some c), sc, inC, env, loc, up, x, h => p_comp (C := fun x => OkE prog w b₀ A sc inC env loc up x (ev2 call q loc up (.comp k elt tg it (some c)))) h fun el target iter ifs scope pos g2 g3 g4 g5 g6 g7 g8 => by
  subst g2
  refine oneC (C := fun l => OkE prog w b₀ A sc false env loc up (.ListComp el [⟨target, iter, l, 0⟩] scope pos) _) g8 fun i g9 => ?_
  exact ok_comp (mc := fun l => (ev2 call q l loc c).2) G.md.sm R.hd g3 g4 g5 (sim_ev G R HC HN it g6) (fun env' l => sim_ev G R HC HN elt g7) fun env' l W st s I F K => Sim.tree (fun Q E hq => wpAny_tests_one hq) (sim_ev G R HC HN c g9 W st s I F K).2
 | .callF f args, sc, inC, env, loc, up, x, h => callC (C := fun x => OkE prog w b₀ A sc inC env loc up x (ev2 call q loc up (.callF f args))) h fun y yp as pos g g3 => andC g fun g5 g6 => ok_callF G R HC g5 g6 (sim_evs (env := env) (loc := loc) (up := up) G R HC HN args g3).es.2 (sim_evs G R HC HN args g3).es.1
 | .new c args, sc, inC, env, loc, up, x, h => callC (C := fun x => OkE prog w b₀ A sc inC env loc up x (ev2 call q loc up (.new c args))) h fun y yp as pos g g3 => andC g fun g5 g6 => ok_new G R HN g5 g6 (sim_evs (env := env) (loc := loc) (up := up) G R HC HN args g3).es.2 (sim_evs G R HC HN args g3).es.1
 | .bi b args, sc, inC, env, loc, up, x, h => callC (C := fun x => OkE prog w b₀ A sc inC env loc up x (ev2 call q loc up (.bi b args))) h fun y yp as pos g g3 => andC g fun g5 g6 => ok_bi G R g5 g6 (sim_evs (env := env) (loc := loc) (up := up) G R HC HN args g3).es.2 (sim_evs G R HC HN args g3).es.1
 | .callO c m o args, sc, inC, env, loc, up, x, h => methC (C := fun x => OkE prog w b₀ A sc inC env loc up x (ev2 call q loc up (.callO c m o args))) (nm := methName m) (R1 := fun v => notSuper v && chkE sc inC o v) (R2 := fun l => plainLen l && chkEs sc inC args l) h fun v ap as pos g7 g8 g6 => andC g8 fun g9 g10 => andC g6 fun g11 g12 => ok_callO G R HC g7 g9 g11 (sim_evs (env := env) (loc := loc) (up := up) G R HC HN args g12).es.2 (sim_ev G R HC HN o g10) (sim_evs G R HC HN args g12).es.1
 | .callB m o args, sc, inC, env, loc, up, x, h => methC (C := fun x => OkE prog w b₀ A sc inC env loc up x (ev2 call q loc up (.callB m o args))) (nm := bName m) (R1 := fun v => notSuper v && chkE sc inC o v) (R2 := fun l => plainLen l && chkEs sc inC args l) h fun v ap as pos g7 g8 g6 => andC g8 fun g9 g10 => andC g6 fun g11 g12 => ok_callB G R g7 g9 g11 (sim_evs (env := env) (loc := loc) (up := up) G R HC HN args g12).es.2 (sim_ev G R HC HN o g10) (sim_evs G R HC HN args g12).es.1
 | .isin e t, sc, inC, env, loc, up, x, h => p_isin (C := fun x => OkE prog w b₀ A sc inC env loc up x (ev2 call q loc up (.isin e t))) h fun y yp a ty tp pos g5 g6 g11 g12 g8 g9 => ok_isin G g5 g11 g12 g8 (sim_ev G R HC HN e g9)
theorem sim_evs (G : Gd w K b₀ mg mb) (R : RB n q A) (HC : CallOk prog w b₀ call q n) (HN : NewOk prog w b₀ call q n) : ∀ (es' : Es) {sc : Sc} {inC : Bool} {env : Env} {loc up : Loc} {es : List Expr}, chkEs sc inC es' es = true → OkL prog w b₀ A sc inC env loc up es (evEs call q loc up es')
 | .nil, sc, inC, env, loc, up, es, h => nilC (C := fun es => OkL prog w b₀ A sc inC env loc up es (evEs call q loc up .nil)) h OkL.nil
 | .cons e r, sc, inC, env, loc, up, [], h => nfC h
 | .cons e r, sc, inC, env, loc, up, x :: xs, h => andC h fun h1 h3 => andC h3 fun h2 h3 => OkL.cons ((Bool.not_eq_true' _).mp h1) (sim_ev G R HC HN e h2) (sim_evs G R HC HN r h3)
theorem sim_evB (G : Gd w K b₀ mg mb) (R : RB n q A) (HC : CallOk prog w b₀ call q n) (HN : NewOk prog w b₀ call q n) : ∀ (es' : Es) {sc : Sc} {inC : Bool} {env : Env} {loc up : Loc} {es : List Expr}, chkEs sc inC es' es = true →
  OkB prog w b₀ A sc inC env loc up es (evAnd call q loc up es') (evOr call q loc up es') (evAllB call q loc up es') (evAnyB call q loc up es')
 | .nil, sc, inC, env, loc, up, es, h => nilC (C := fun es => OkB prog w b₀ A sc inC env loc up es (evAnd call q loc up .nil) (evOr call q loc up .nil) (evAllB call q loc up .nil) (evAnyB call q loc up .nil)) h ⟨fun _ _ _ _ _ _ _ => Sim.nothing, fun _ _ _ _ _ _ _ => Sim.nothing, fun W st s I F K => Sim.pure I rfl, fun W st s I F K => Sim.pure I rfl⟩
 | .cons e r, sc, inC, env, loc, up, [], h => nfC h
 | .cons e r, sc, inC, env, loc, up, x :: xs, h => andC h fun _ h3 => andC h3 fun h1 h2 => ok_evB (sim_ev G R HC HN e h1) (sim_evB G R HC HN r h2) (chkEs_len h2)
end
end
end Mine
end
section
open PySem PySem.W PyProof.Rows
namespace Mine
section
variable {prog : Program} {w : World} {b₀ : Heap} {W W' : Wd} {st st' : St} {h h' h'' : Heap} {A A' : Around} {c : Nat} {e : Value}
theorem Inv.ofKept (I : Inv prog w b₀ W st h) (hk : ∀ a o, h.get? a = some o → (Owned W st.n a ∨ ∃ o₀, W.B a = some o₀) → h'.get? a = some o) : Inv prog w b₀ W st h' :=
 ⟨I.base, fun a o e => hk a o (I.sub a o e) (.inr ⟨o, e⟩), fun i hi => (I.own i hi).keep (.refl _ _) (Nat.le_refl _) hi (fun a o q e => hk a o e (.inl ⟨i, hi, q⟩)) fun b o e => ⟨I.sub b o e, hk b o (I.sub b o e) (.inr ⟨o, e⟩)⟩, I.apart, I.inj,
  fun i hi => ⟨(I.live i hi).1.imp fun o e => hk _ _ e (.inl ⟨i, hi, .inl rfl⟩), (I.live i hi).2.imp fun o e => hk _ _ e (.inl ⟨i, hi, .inr rfl⟩)⟩⟩
theorem ex_next {ea : Addr} {base : Heap} (x : ExPost prog w b₀ A' W st h W' st' h' c e) (he : e = .ref ea) (hb : base.StaysIn h') (hen : base.get? ea = none) (hfr : h'.FunFrames base (framesOf A'))
  (hall : ∀ a o, h'.get? a = some o → ((∃ o₀, h.get? a = some o₀) ∨ Owned W' st'.n a ∨ ∃ o₀, W'.B a = some o₀) → a ∉ fAddrs A' → base.get? a = some o)
  (hsub : ∀ L, L ∈ fAddrs A' → L ∈ fAddrs A ∨ h.get? L = none) (hsub2 : ∀ L ∈ fAddrs A, L ∈ fAddrs A') (hb' : base.StaysIn h'') (hfr' : h''.FunFrames base (framesOf A)) (hup : h'.UpToSlots h'') (hs : ExState h'' base ea (excAddr c) ((framesOf A).head?.bind (·.frame))) :
  ExPost prog w b₀ A W st h W' st' h'' c e := by
 have notF : ∀ a, (Owned W' st'.n a ∨ ∃ o₀, W'.B a = some o₀) → a ∉ fAddrs A' := fun a q hf => by
  obtain ⟨f1, f2, _⟩ := x.fro a hf
  rcases q with q | ⟨o, q⟩
  ·exact f1 q
  ·rw [f2] at q; exact noC q
 have I2 : Inv prog w b₀ W' st' h'' := x.inv.ofKept fun a o ha hq => hb' a o (hall a o ha (.inr hq) (notF a hq))
 have key : ∀ a o, h.get? a = some o → ¬ Owned W st.n a → (a ∉ fAddrs A ∨ ¬ isDictD o) → h''.get? a = some o := fun a o ha ho hf => by
  have hf' : a ∉ fAddrs A' := fun q => by
   rcases hsub a q with z | z
   ·rcases hf with hf | hf
    ·exact hf z
    ·obtain ⟨sl, q1⟩ := x.step.slots a o ha ho
     obtain ⟨_, _, o', q2, q3⟩ := x.fro a q
     rw [q1] at q2; obtain rfl := inj1 q2
     exact hf q3
   ·rw [ha] at z; exact nsC z
  exact hb' a o (hall a o (x.step.exact a o ha ho (.inl hf')) (.inl ⟨o, ha⟩) hf')
 refine ⟨I2, ⟨x.step.grow, x.step.le, x.step.fresh, x.step.newB, key, fun a o ha ho => ?_⟩, fun L hL => ?_, ea, base, he, hb', hen, hfr', hs, fun a o ha hq hf => ?_⟩
 ·by_cases hf : a ∈ fAddrs A
  ·obtain ⟨sl, q⟩ := x.step.slots a o ha ho
   obtain ⟨_, o', ho', hnf⟩ := hfr.mem (hsub2 a hf)
   rw [q] at ho'
   obtain rfl := inj1 ho'
   obtain ⟨sl', q'⟩ := hup a _ q hnf
   exact ⟨sl', q'⟩
  ·exact ⟨o.slots, key a o ha ho (.inl hf)⟩
 ·obtain ⟨f1, f2, o, f3, es, ep, f4⟩ := x.fro L (hsub2 L hL)
  obtain ⟨sl, q⟩ := hup L o f3 (fun vs q => by rw [f4] at q; cases q)
  exact ⟨f1, f2, _, q, es, ep, f4⟩
 ·have hf' : a ∉ fAddrs A' := by
   rcases hq with ⟨o₀, q⟩ | q | q
   ·intro z
    rcases hsub a z with z | z
    ·exact hf z
    ·rw [q] at z; exact nsC z
   ·exact notF a (.inl q)
   ·exact notF a (.inr q)
  have : ∃ o', h'.get? a = some o' := by
   rcases hq with ⟨o₀, q⟩ | q | ⟨o₀, q⟩
   ·exact x.step.alive x.inv q
   ·obtain ⟨i, hi, hx⟩ := q
    obtain ⟨l1, l2⟩ := x.inv.live i hi
    rcases hx with rfl | rfl
    ·exact l1
    ·exact l2
   ·exact ⟨_, x.inv.sub _ _ q⟩
  obtain ⟨o', q⟩ := this
  have hbq := hall a o' q hq hf'
  rw [hb' a o' hbq] at ha
  obtain rfl := inj1 ha
  exact hbq
end
section
variable {M : Model} {A : Around} {E : Value → Shared → Prop} {base h' : Heap} {env : Env} {outer : List Env} {L ea : Addr} {cls : Value} {g : Array GenState} {dr : Drawn} {tk : Nat} {os : OsState}
theorem entry_laid {oe : Obj} {vs : Array Value} {head : Value} {hadNext : Bool} {Q : Unit → Shared → Prop}
  (hfr : A.frames = some (env :: outer)) (hl : h'.FunFrames base (env :: outer)) (hf : env.frame = some L)
  (he : h'.get? ea = some oe) (hkb : base.StaysIn h') (hen : base.get? ea = none) (hd : oe.data = .fields vs) (hsz : 1 < vs.size) (h2 : vs[2]? = some .none)
  (hQ : ∀ h'', base.StaysIn h'' → h''.FunFrames base (env :: outer) → TracedC h'' base ea oe.cls (rawInt L) → h'.UpToSlots h'' → Q () ⟨h'', g, dr, tk, os⟩) :
  wpAny M A (do let a ← frameOf env; let pl ← entryPlaceOf L hadNext; let b ← EntryCells.newEntry head a .none (rawInt L) .none pl; setField (.ref ea) 1 b) Q E ⟨h', g, dr, tk, os⟩ := by
 have hene : ea ∉ (env :: outer).filterMap (·.frame) := fun hm => by
  obtain ⟨_, o, ho, hnf⟩ := hl.mem hm
  rw [he] at ho; (obtain rfl := inj1 ho); exact hnf vs hd
 refine wpAny_bind (wpAny_frameOf_fun (s := ⟨h', g, dr, tk, os⟩) hfr hl hf fun h₁ hs₁ => ?_)
 refine wpAny_bind (wpAny_entryPlaceOf fun pl hpl => ?_)
 unfold EntryCells.newEntry newFields
 refine wpAny_bind (wpAny_newObj_type ?_ (hpl.sizeOk5 _ _ _ _ _))
 have he₁ : h₁.get? ea = some oe := (hs₁.2.1 ea hene).trans he
 have kb₁ : base.StaysIn h₁ := fun b o hbo => (hs₁.2.1 b fun hm => by rw [(hl.mem hm).1] at hbo; (exact noC hbo)).trans (hkb b o hbo)
 generalize hT : ({ cls := .type "traceback", dict := none, data := .fields ([head, .ref L, .none, rawInt L, .none] ++ (if pl.isEmpty then List.replicate 6 Value.none else pl)).toArray } : Obj) = oT
 have hTd : oT.data = .fields ([head, .ref L, .none, rawInt L, .none] ++ (if pl.isEmpty then List.replicate 6 Value.none else pl)).toArray := by rw [← hT]
 have hTf : oT.isFreed = false := by rw [← hT]; rfl
 have he₂ := Heap.get?_push_of_some (h := h₁) oT he₁
 have hTe : h₁.objs.size ≠ ea := Nat.ne_of_gt (Heap.lt_size he₁)
 have hd₃ := Obj.data_mapFields hd (·.setIfInBounds 1 (Value.ref h₁.objs.size))
 have hT₂ := Heap.get?_push_size h₁ hTf
 refine wpAny_setField (s := ⟨h₁.push oT, g, dr, tk, os⟩) he₂ hd hsz (hQ _ ?_ ?_ ?_ ?_)
 all_goals
  have keep : ∀ b o, b ≠ ea → h₁.get? b = some o → ((h₁.push oT).update ea (Obj.mapFields (·.setIfInBounds 1 (Value.ref h₁.objs.size)))).get? b = some o := fun b o hbe hb => by
   rw [Heap.get?_update_other _ _ (Ne.symm hbe)]; exact Heap.get?_push_of_some _ hb
  have noRecord : ∀ b o, h'.get? b = some o → (∀ vs, o.data ≠ .fields vs) → b ≠ ea := fun b o hb hnf q => by
   rw [q, he] at hb; (first | exact nfC hb | (obtain rfl := inj1 hb) | cases hb); exact hnf vs hd
 ·exact fun b o hbo => keep b o (fun q => by rw [q, hen] at hbo; (exact noC hbo)) (kb₁ b o hbo)
 ·refine hl.of_keeps fun b o hb hnf => ?_
  obtain ⟨sl, hs⟩ := hs₁.2.2 b o hb
  exact ⟨_, keep b _ (noRecord b o hb hnf) hs, rfl⟩
 ·refine ⟨_, _, h₁.objs.size, oT, _, Heap.get?_update_self _ he₂ (Obj.isFreed_of_fields hd₃), Obj.cls_mapFields _ _, hd₃, by simp [hsz], ?_, kb₁.fresh, hTe, ?_, hTd, ?_⟩
  ·rw [Array.getElem?_setIfInBounds_ne (by decide)]; exact h2
  ·rw [Heap.get?_update_other _ _ (Ne.symm hTe)]; exact hT₂
  ·simp
 ·intro b o hb hnf
  obtain ⟨sl, hs⟩ := hs₁.2.2 b o hb
  exact ⟨sl, keep b _ (noRecord b o hb hnf) hs⟩
theorem flight_set {l : List Env} {fl : Value} {fr : Option Addr} {Q : Unit → Shared → Prop} (hkb : base.StaysIn h') (hl : h'.FunFrames base l) (ht : TracedC h' base ea cls fl)
  (hQ : ∀ h'', base.StaysIn h'' → h''.FunFrames base l → TracedC h'' base ea cls (fr.elim Value.none fun f => rawInt f) → h'.UpToSlots h'' → Q () ⟨h'', g, dr, tk, os⟩) :
  wpAny M A (setFlight (.ref ea) fr) Q E ⟨h', g, dr, tk, os⟩ := by
 obtain ⟨oe, vs, T, oT, ts, he, hcls, hd, h1, h2, hnT, hTe, hT, hdT, h3⟩ := ht
 have hsz3 : 3 < ts.size := (Array.getElem?_eq_some_iff.mp h3).1
 have other : ∀ b, b ≠ T → (h'.update T (Obj.mapFields (·.setIfInBounds 3 (fr.elim Value.none fun f => rawInt f)))).get? b = h'.get? b := fun b hb => Heap.get?_update_other _ _ (Ne.symm hb)
 have noRecord : ∀ b o, h'.get? b = some o → (∀ vs, o.data ≠ .fields vs) → b ≠ T := fun b o hb hnf q => by
  rw [q, hT] at hb; (obtain rfl := inj1 hb); exact hnf ts hdT
 unfold setFlight
 refine wpAny_bind (wpAny_field (s := ⟨h', g, dr, tk, os⟩) he hd h1 ?_)
 rw [if_pos (show (Value.ref T != Value.none) = true from by simp)]
 refine wpAny_setField (s := ⟨h', g, dr, tk, os⟩) hT hdT hsz3 (hQ _ (fun b o hbo => (other b fun q => by rw [q, hnT] at hbo; (exact noC hbo)).trans (hkb b o hbo))
  (hl.of_keeps fun b o hb hnf => ⟨o, (other b (noRecord b o hb hnf)).trans hb, rfl⟩) ?_ fun b o hb hnf => ⟨o.slots, (other b (noRecord b o hb hnf)).trans hb⟩)
 exact ⟨oe, vs, T, _, _, (other ea (Ne.symm hTe)).trans he, hcls, hd, h1, h2, hnT, hTe, Heap.get?_update_self _ hT (Obj.isFreed_of_fields (Obj.data_mapFields hdT _)), Obj.data_mapFields hdT _, by simp [hsz3]⟩
theorem noted_at {Q : Unit → Shared → Prop} {C : Addr} (hfr : A.frames = some (env :: outer)) (hf : env.frame = some L) (hkb : base.StaysIn h') (hen : base.get? ea = none) (hl : h'.FunFrames base (env :: outer)) (hs : ExState h' base ea C (some L))
  (hQ : ∀ h'', base.StaysIn h'' → h''.FunFrames base (env :: outer) → TracedC h'' base ea (.ref C) (rawInt L) → h'.UpToSlots h'' → Q () ⟨h'', g, dr, tk, os⟩) :
  wpAny M A (noteFrame (.ref ea) env) Q E ⟨h', g, dr, tk, os⟩ := by
 cases hs with
 | made o vs he hc hd h1 h2 =>
  unfold noteFrame
  simp only [hf]
  refine wpAny_bind (wpAny_field (s := ⟨h', g, dr, tk, os⟩) he hd h1 ?_)
  rw [if_neg (by decide)]
  refine entry_laid hfr hl hf he hkb hen hd (Array.getElem?_eq_some_iff.mp h1).1 h2 fun h'' q1 q2 q3 q4 => hQ h'' q1 q2 (by rw [← hc]; exact q3) q4
 | flying ht =>
  obtain ⟨oe, vs, T, oT, ts, he, hcls, hd, h1, h2, hnT, hTe, hT, hdT, h3⟩ := ht
  unfold noteFrame
  simp only [hf]
  refine wpAny_bind (wpAny_field (s := ⟨h', g, dr, tk, os⟩) he hd h1 ?_)
  rw [if_pos (show (Value.ref T != Value.none) = true from by simp)]
  refine wpAny_bind (wpAny_field (s := ⟨h', g, dr, tk, os⟩) hT hdT h3 ?_)
  rw [if_neg (show ¬ ((Value.none == rawInt L) = true) from by simp [rawInt])]
  refine wpAny_bind (wpAny_setField (s := ⟨h', g, dr, tk, os⟩) hT hdT (Array.getElem?_eq_some_iff.mp h3).1 ?_)
  have other : ∀ b, b ≠ T → (h'.update T (Obj.mapFields (·.setIfInBounds 3 Value.none))).get? b = h'.get? b := fun b hb => Heap.get?_update_other _ _ (Ne.symm hb)
  have noRecord : ∀ b o, h'.get? b = some o → (∀ vs, o.data ≠ .fields vs) → b ≠ T := fun b o hb hnf q => by
   rw [q, hT] at hb; (obtain rfl := inj1 hb); exact hnf ts hdT
  refine entry_laid (oe := oe) (vs := vs) hfr (hl.of_keeps fun b o hb hnf => ⟨o, (other b (noRecord b o hb hnf)).trans hb, rfl⟩) hf ((other ea (Ne.symm hTe)).trans he)
   (fun b o hbo => (other b fun q => by rw [q, hnT] at hbo; (exact noC hbo)).trans (hkb b o hbo)) hen hd (Array.getElem?_eq_some_iff.mp h1).1 h2 fun h'' q1 q2 q3 q4 => hQ h'' q1 q2 (by rw [← hcls]; exact q3) fun b o hb hnf => q4 b o ((other b (noRecord b o hb hnf)).trans hb) hnf
 | held L' hL ht =>
  obtain rfl := inj1 hL
  obtain ⟨oe, vs, T, oT, ts, he, hcls, hd, h1, h2, hnT, hTe, hT, hdT, h3⟩ := id ht
  unfold noteFrame
  simp only [hf]
  refine wpAny_bind (wpAny_field (s := ⟨h', g, dr, tk, os⟩) he hd h1 ?_)
  rw [if_pos (show (Value.ref T != Value.none) = true from by simp)]
  refine wpAny_bind (wpAny_field (s := ⟨h', g, dr, tk, os⟩) hT hdT h3 ?_)
  rw [if_pos (show (rawInt L == rawInt L) = true from by simp)]
  exact wpAny_pure (hQ h' hkb hl ht (.refl _))
end
section
variable {prog : Program} {w : World} {b₀ : Heap} {W W' : Wd} {st st' : St} {h h' : Heap} {A : Around} {c : Nat} {e : Value} {env : Env} {outer : List Env} {L : Addr} {g : Array GenState} {dr : Drawn} {tk : Nat} {os : OsState}
theorem ex_note {M : Model} (x : ExPost prog w b₀ A W st h W' st' h' c e) (hfr : A.frames = some (env :: outer)) (hf : env.frame = some L) {Q : Unit → Shared → Prop} {E : Value → Shared → Prop}
  (hQ : ∀ h'', ExPost prog w b₀ A W st h W' st' h'' c e → (∃ ea, e = .ref ea ∧ ∃ base, TracedC h'' base ea (.ref (excAddr c)) (rawInt L)) → Q () ⟨h'', g, dr, tk, os⟩) :
  wpAny M A (noteFrame e env) Q E ⟨h', g, dr, tk, os⟩ := by
 have hfo : framesOf A = env :: outer := by unfold framesOf; rw [hfr]; rfl
 obtain ⟨ea, base, rfl, hb, hen, hfun, hs, hall⟩ := x.ex
 have hfun' := hfun
 rw [hfo] at hfun hs
 have hs' : ExState h' base ea (excAddr c) (some L) := by
  have : (List.head? (env :: outer)).bind (·.frame) = some L := hf
  rw [this] at hs; exact hs
 refine noted_at hfr hf hb hen hfun hs' fun h'' q1 q2 q3 q4 => hQ h'' ?_ ⟨ea, rfl, base, q3⟩
 exact ex_next x rfl hb hen hfun' hall (fun L hL => .inl hL) (fun L hL => hL) q1 (by rw [hfo]; exact q2) q4 (.held L (by rw [hfo]; exact hf) q3)
theorem ex_flight {M : Model} {fr : Option Addr} (x : ExPost prog w b₀ A W st h W' st' h' c e) (hfr : A.frames = some (env :: outer)) (hf : env.frame = some L) (hfr' : fr = none ∨ fr = some L) (ht : ∃ ea, e = .ref ea ∧ ∃ base fl, TracedC h' base ea (.ref (excAddr c)) fl) {Q : Unit → Shared → Prop} {E : Value → Shared → Prop}
  (hQ : ∀ h'', ExPost prog w b₀ A W st h W' st' h'' c e → (∃ ea, e = .ref ea ∧ ∃ base, TracedC h'' base ea (.ref (excAddr c)) (fr.elim Value.none fun f => rawInt f)) → Q () ⟨h'', g, dr, tk, os⟩) :
  wpAny M A (setFlight e fr) Q E ⟨h', g, dr, tk, os⟩ := by
 have hfo : framesOf A = env :: outer := by unfold framesOf; rw [hfr]; rfl
 obtain ⟨ea, base, rfl, hb, hen, hfun, hs, hall⟩ := x.ex
 have hfun' := hfun
 rw [hfo] at hfun hs
 have tr : ∃ fl, TracedC h' base ea (.ref (excAddr c)) fl := by
  cases hs with
  | made o vs he hc hd h1 h2 =>
   exfalso
   obtain ⟨ea', e', base', fl, oe, vs', T, oT, ts, he', _, hd', h1', _⟩ := ht
   cases e'
   rw [he] at he'; obtain rfl := inj1 he'
   rw [hd] at hd'; cases hd'
   rw [h1] at h1'; cases h1'
  | flying ht => exact ⟨_, ht⟩
  | held L' hL ht => exact ⟨_, ht⟩
 obtain ⟨fl, tr⟩ := tr
 refine flight_set hb hfun tr fun h'' q1 q2 q3 q4 => hQ h'' ?_ ⟨ea, rfl, base, q3⟩
 refine ex_next x rfl hb hen hfun' hall (fun L hL => .inl hL) (fun L hL => hL) q1 (by rw [hfo]; exact q2) q4 ?_
 rcases hfr' with rfl | rfl
 ·exact .flying q3
 ·exact .held L (by rw [hfo]; exact hf) q3
theorem ex_back {Q : Value → Shared → Prop} {M : Model} (hfr : A.frames = some (env :: outer)) (hf : env.frame = some L) (x : ExPost prog w b₀ A W st h W' st' h' c e) (ht : ∃ ea, e = .ref ea ∧ ∃ base fl, TracedC h' base ea (.ref (excAddr c)) fl)
  (hQ : ∀ h'', ExPost prog w b₀ A W st h W' st' h'' c e → Q e ⟨h'', g, dr, tk, os⟩) : cameBackBy M A env Q e ⟨h', g, dr, tk, os⟩ := by
 unfold cameBackBy
 obtain ⟨ea, rfl, base, fl, q4⟩ := id ht
 obtain ⟨oe, vs, T, oT, ts, he, hcls, hd, h1, hrest⟩ := q4
 refine wpAny_bind (wpAny_field (s := ⟨h', g, dr, tk, os⟩) he hd h1 ?_)
 rw [if_neg (by simp)]
 rw [hf]
 exact ex_flight x hfr hf (.inr rfl) ht fun h'' y _ => hQ h'' y
theorem ex_leave {M : Model} {A₀ : Around} (x : ExPost prog w b₀ A W st h W' st' h' c e) (hfr : A.frames = some (env :: outer)) (hfr0 : A₀.frames = some outer) (hf : env.frame = some L) (hL : h.get? L = none) {Q : Unit → Shared → Prop} {E : Value → Shared → Prop}
  (hQ : ∀ h'', ExPost prog w b₀ A₀ W st h W' st' h'' c e → Q () ⟨h'', g, dr, tk, os⟩) : wpAny M A (leaving env e) Q E ⟨h', g, dr, tk, os⟩ := by
 have hfo : framesOf A = env :: outer := by unfold framesOf; rw [hfr]; rfl
 have hfo0 : framesOf A₀ = outer := by unfold framesOf; rw [hfr0]; rfl
 unfold leaving
 refine wpAny_bind (ex_note x hfr hf fun h1 x1 t1 => ex_flight x1 hfr hf (.inl rfl) (let ⟨a, b, c, d⟩ := t1; ⟨a, b, c, _, d⟩) fun h2 x2 t2 => hQ h2 ?_)
 obtain ⟨ea, base, rfl, hb, hen, hfun, hs, hall⟩ := x2.ex
 have hfun' := hfun
 rw [hfo] at hfun hs
 have tr : TracedC h2 base ea (.ref (excAddr c)) .none := by
  obtain ⟨ea', e', base', oe, vs', T, oT, ts, he', _, hd', h1', _, _, _, hT, hdT, h3⟩ := t2
  cases e'
  cases hs with
  | made o vs he hc hd h1 h2 =>
   exfalso
   rw [he] at he'; obtain rfl := inj1 he'
   rw [hd] at hd'; cases hd'
   rw [h1] at h1'; cases h1'
  | flying ht => exact ht
  | held L' hL ht =>
   exfalso
   obtain ⟨oe2, vs2, T2, oT2, ts2, he2, _, hd2, h12, _, _, _, hT2, hdT2, h32⟩ := ht
   rw [he2] at he'; obtain rfl := inj1 he'
   rw [hd2] at hd'; cases hd'
   rw [h12] at h1'; cases h1'
   rw [hT2] at hT; obtain rfl := inj1 hT
   rw [hdT2] at hdT; cases hdT
   rw [h32] at h3
   simp [rawInt] at h3
 refine ex_next x2 rfl hb hen hfun' hall (fun L' hL' => ?_) (fun L' hL' => ?_) hb (by rw [hfo0]; exact hfun.2.2) (.refl _) (.flying tr)
 ·unfold fAddrs at hL' ⊢
  rw [hfo, List.filterMap_cons, hf] at hL'
  rw [hfo0]
  rcases List.mem_cons.mp hL' with rfl | z
  ·exact .inr hL
  ·exact .inl z
 ·unfold fAddrs at hL' ⊢
  rw [hfo0] at hL'
  rw [hfo, List.filterMap_cons, hf]
  exact List.mem_cons_of_mem _ hL'
end
end Mine
end
section
open PySem PySem.W PyProof.Rows PySem.Calls PySem.SeqAt
namespace Mine
noncomputable def erase (h : Heap) : List Addr → Heap
 | [] => h
 | a :: r => (erase h r).update a fun o => { o with data := .freed }
theorem get_erase (h : Heap) : ∀ (X : List Addr) (a : Addr), (erase h X).get? a = if a ∈ X then none else h.get? a
 | [], a => by simp [erase]
 | x :: r, a => by
  have ih := get_erase h r a
  unfold erase
  by_cases q : x = a
  ·subst q
   rw [if_pos (by simp)]
   cases e : ((erase h r).update x fun o => { o with data := .freed }).get? x with
   | none => rfl
   | some o =>
    exfalso
    obtain ⟨e1, e2⟩ := Heap.get?_some_iff.mp e
    revert e1
    generalize erase h r = g
    cases g with | mk objs _ =>
    simp only [Heap.update, Array.getElem?_modify, if_true]
    intro e1
    cases hz : objs[x]? with
    | none => rw [hz] at e1; exact noC e1
    | some o' => rw [hz] at e1; (obtain rfl := inj1 e1); simp [Obj.isFreed] at e2
  ·rw [Heap.get?_update_other _ _ q, ih]
   by_cases q' : a ∈ r
   ·rw [if_pos q', if_pos (by simp [q'])]
   ·rw [if_neg q', if_neg (by simp [q', Ne.symm q])]
section
variable {prog : Program} {w : World} {b₀ : Heap} {mg mb : Str → Option Value} {A : Around}
theorem SK.touchOwn {W : Wd} {n : Nat} {h h' : Heap} {x : Addr} (K : SK A W n h) (hk : Heap.ExtBut x h h') (hx : ∃ o, h.get? x = some o ∧ ∀ vs, o.data ≠ .fields vs) (hx' : x ∈ fAddrs A → ∃ o, h'.get? x = some o ∧ isDictD o) : SK A W n h' := by
 refine ⟨fun env he => ?_, fun e he => ?_, K.hdo⟩
 ·obtain ⟨k, L, hf, ⟨o, ho, hd⟩, q1, q2⟩ := K.fr env he
  by_cases q : L = x
  ·subst q
   exact ⟨k, L, hf, hx' (List.mem_filterMap.mpr ⟨env, he, hf⟩), q1, q2⟩
  ·exact ⟨k, L, hf, ⟨o, hk _ _ q ho, hd⟩, q1, q2⟩
 ·obtain ⟨ea, o, vs, rfl, ho, hd, h2⟩ := K.hd e he
  refine ⟨ea, o, vs, rfl, hk _ _ (fun q => ?_) ho, hd, h2⟩
  obtain ⟨o', q1, q2⟩ := hx
  rw [q] at ho
  rw [ho] at q1; obtain rfl := inj1 q1
  exact q2 vs hd
structure FX (A : Around) (env : Env) (outer : List Env) (sc : Sc) : Prop where
 frames : A.frames = some (env :: outer)
 frame : env.frame = some env.locals
 names : env.scope.names = sc
structure FN (h0 : Heap) (env : Env) : Prop where
 loc : h0.get? env.locals = none
 cell : ∀ y c, (y, c) ∈ env.cells → h0.get? c = none
structure SI (prog : Program) (w : World) (b₀ : Heap) (A : Around) (W0 : Wd) (st0 : St) (h0 : Heap) (sc : Sc) (env : Env) (W : Wd) (st : St) (h : Heap) (loc : Loc) : Prop where
 inv : Inv prog w b₀ W st h
 step : Step (fAddrs A) W0 st0 h0 W st h
 fr : FR w W st.n env (cxF sc) loc Loc.none h
 sk : SK A W st.n h
noncomputable def RFl (P : Params) (W : Wd) (n : Nat) : Fl → Flow → Prop
 | .next, .next => True
 | .brk, .brk => True
 | .ret v, .ret rv => RV P W n v rv
 | _, _ => False
noncomputable def SimS (prog : Program) (w : World) (b₀ : Heap) (A : Around) (t : Sem Flow) (W0 : Wd) (st0 : St) (h0 : Heap) (sc : Sc) (env : Env) (s : Shared) (res : Option (Except Nat (Fl × Loc) × St)) : Prop :=
 ∀ r st', res = some (r, st') → ∀ (Q : Flow → Shared → Prop) (E : Value → Shared → Prop),
  (∀ fl loc' f W' h' tk, r = .ok (fl, loc') → SI prog w b₀ A W0 st0 h0 sc env W' st' h' loc' → RFl w.params W' st'.n fl f → Q f ⟨h', s.gens, s.drawn, tk, s.os⟩) →
  (∀ c e W' h' tk, r = .error c → ExPost prog w b₀ A W0 st0 h0 W' st' h' c e → E e ⟨h', s.gens, s.drawn, tk, s.os⟩) →
  wpAny (model prog w) A t Q E s
variable {env : Env} {outer : List Env} {sc : Sc} {W0 W : Wd} {st0 st : St} {h0 : Heap} {loc : Loc} {s : Shared}
theorem store_any' (X : FX A env outer sc) (N : FN h0 env) {i : Nat} {x : Str} (hl : isLoc sc false i x = true) {v : V} {rv : Value} (S : SI prog w b₀ A W0 st0 h0 sc env W st s.heap loc) (R : RV w.params W st.n v rv) {Q : Unit → Shared → Prop} {E : Value → Shared → Prop}
  (hQ : ∀ h' tk, SI prog w b₀ A W0 st0 h0 sc env W st h' (loc.put i v) → (∀ a o, s.heap.get? a = some o → a ≠ env.locals → (∀ y c, (y, c) ∈ env.cells → a ≠ c) → h'.get? a = some o) → Q () ⟨h', s.gens, s.drawn, tk, s.os⟩) : wpAny (model prog w) A (storeName env x rv) Q E s := by
 simp only [isLoc, Bool.and_eq_true, Bool.or_eq_true, beq_iff_eq, decide_eq_true_eq, Bool.not_false, Bool.true_and] at hl
 obtain ⟨⟨hx, hi⟩, hk⟩ := hl
 have F := S.fr
 rcases hk with hk | hk
 ·refine store_loc (locIn_of sc false) F (cx := cxF sc) ⟨hk, hx, hi⟩ R fun h' tk F' he => hQ h' tk ⟨S.inv.touch F.out.1 F.out.2 he, S.step.touch N.loc he, F', S.sk.touchOwn he ?_ fun _ => ?_⟩ fun a o e h1 _ => he a o h1 e
  ·obtain ⟨m, ⟨o, es, ep, ho, hd, _⟩, _⟩ := F.ns
   exact ⟨o, ho, fun vs q => by rw [hd] at q; cases q⟩
  ·obtain ⟨m, ⟨o, es, ep, ho, hd, _⟩, _⟩ := F'.ns
   exact ⟨o, ho, es, ep, hd⟩
 ·obtain ⟨kx, c, o, hc, hcell, _⟩ := F.cell x i ⟨hk, hx, hi⟩
  have hm := mem_of_lookup hc
  obtain ⟨g1, g2, g3, _⟩ := F.outc x c hm
  refine wpAny_storeName_cell F.kind kx hc hcell fun h' hc' hs => ?_
  have F' := F.storeCell (v := v) (locIn_of sc false) (fun _ _ h => h) (show (cxF sc).cell x i from ⟨hk, hx, hi⟩) hc R hc' hs
  refine hQ h' _ ⟨S.inv.touch g1 g2 hs.extBut, S.step.touch (N.cell x c hm) hs.extBut, F', S.sk.touchOwn hs.extBut ?_ fun q => ?_⟩ fun a o e _ h2 => hs.extBut a o (h2 x c hm) e
  ·obtain ⟨ob, e, d⟩ := hcell
   exact ⟨ob, e, fun vs q => by rw [d] at q; cases q⟩
  ·exfalso
   obtain ⟨env', he, hf⟩ := List.mem_filterMap.mp q
   obtain ⟨_, L, hf', ⟨o', ho', es, ep, hd⟩, _⟩ := S.sk.fr env' he
   rw [hf] at hf'; obtain rfl := inj1 hf'
   obtain ⟨ob, e, d⟩ := hcell
   rw [ho'] at e; obtain rfl := inj1 e
   rw [hd] at d; cases d
theorem store_any (X : FX A env outer sc) (N : FN h0 env) {i : Nat} {x : Str} (hl : isLoc sc false i x = true) {v : V} {rv : Value} (S : SI prog w b₀ A W0 st0 h0 sc env W st s.heap loc) (R : RV w.params W st.n v rv) {Q : Unit → Shared → Prop} {E : Value → Shared → Prop}
  (hQ : ∀ h' tk, SI prog w b₀ A W0 st0 h0 sc env W st h' (loc.put i v) → Q () ⟨h', s.gens, s.drawn, tk, s.os⟩) : wpAny (model prog w) A (storeName env x rv) Q E s :=
 store_any' X N hl S R fun h' tk S' _ => hQ h' tk S'
theorem SI.moved {W' : Wd} {st' : St} {h h' : Heap} (S : SI prog w b₀ A W0 st0 h0 sc env W st h loc) (I' : Inv prog w b₀ W' st' h') (x : Step (fAddrs A) W st h W' st' h') : SI prog w b₀ A W0 st0 h0 sc env W' st' h' loc :=
 ⟨I', S.step.trans S.inv x, S.fr.step x, S.sk.step x⟩
theorem SimS.val {e : Expr} {m : M V × M Bool} {g : V → M (Fl × Loc)} {t : Value → Sem Flow} (S : SI prog w b₀ A W0 st0 h0 sc env W st s.heap loc) (x : OkE prog w b₀ A sc false env loc Loc.none e m)
  (y : ∀ v rv W' st' h' tk, SI prog w b₀ A W0 st0 h0 sc env W' st' h' loc → Step (fAddrs A) W st s.heap W' st' h' → RV w.params W' st'.n v rv → SimS prog w b₀ A (t rv) W0 st0 h0 sc env ⟨h', s.gens, s.drawn, tk, s.os⟩ (g v st')) :
  SimS prog w b₀ A (eval e env >>= t) W0 st0 h0 sc env s (m.1.bind g st) := by
 intro r st' eq Q E hQ hE
 unfold M.bind at eq
 cases q : m.1 st with
 | none => rw [q] at eq; exact noC eq
 | some p =>
  obtain ⟨r₁, st₁⟩ := p
  rw [q] at eq
  refine wpAny_bind ((x W st s S.inv S.fr S.sk).1 r₁ st₁ q _ _ (fun v rv W₁ h₁ tk₁ hr I₁ S₁ R₁ => ?_) fun c ex W₁ h₁ tk₁ hr X₁ => ?_)
  ·subst hr
   exact y v rv W₁ st₁ h₁ tk₁ (S.moved I₁ S₁) S₁ R₁ r st' eq Q E hQ hE
  ·subst hr
   obtain ⟨rfl, rfl⟩ := inj2 eq
   exact hE c ex W₁ h₁ tk₁ rfl (S.step.transE S.inv X₁)
theorem SimS.tree {t t' : Sem Flow} {res : Option (Except Nat (Fl × Loc) × St)} (h : ∀ Q E, wpAny (model prog w) A t Q E s → wpAny (model prog w) A t' Q E s) (x : SimS prog w b₀ A t W0 st0 h0 sc env s res) : SimS prog w b₀ A t' W0 st0 h0 sc env s res :=
 fun r st' e Q E hQ hE => h Q E (x r st' e Q E hQ hE)
theorem SimS.fail {t : Sem Flow} : SimS prog w b₀ A t W0 st0 h0 sc env s Option.none := fun _ _ e => by exact noC e
end
noncomputable def notComp (e : Expr) : Bool := Nat.blt e.ctorIdx 8 || Nat.blt 10 e.ctorIdx
theorem swaps_plain {e : Expr} {t : Option Expr} {l : Nat} {env : Env} (h : notComp e = true) : swapsWith e t l env = pure false := by
 cases e <;> first | rfl | (exact nfC h)
theorem swaps_attr {e o : Expr} {x : Str} {p : Pos} {l : Nat} {env : Env} : swapsWith e (some (.Attribute o x p)) l env = pure false := by
 cases e <;> rfl
theorem swaps_sub {e o i : Expr} {p : Pos} {l : Nat} {env : Env} : swapsWith e (some (.Subscript o i p)) l env = pure false := by
 cases e <;> rfl
noncomputable def swapOk (sc : Sc) (x y : Str) (px py : Pos) (vs : List Expr) : Bool :=
 decide (vs.length = 2) && sc.lookup x == some .local && sc.lookup y == some .local && py.line == px.line && x != y &&
 !(vs.any fun | .Starred .. => true | _ => false) && !(vs.all (foldedForSure 8)) && !(vs.all (constantsAlone 8))
theorem swapped_ok {env : Env} {sc : Sc} {x y : Str} {px py p1 p2 : Pos} {k1 k2 : Nat} {vs : List Expr} (hk : env.scope.kind = .function) (hn : env.scope.names = sc) (h : swapOk sc x y px py vs = true) :
  swappedStores [.Tuple [.Name x px, .Name y py] k1 p1] (.Tuple vs k2 p2) env = pure (some [x, y]) := by
 simp only [swapOk, Bool.and_eq_true, decide_eq_true_eq, beq_iff_eq, bne_iff_ne, Bool.not_eq_true'] at h
 obtain ⟨⟨⟨⟨⟨⟨⟨h1, h2⟩, h3⟩, h4⟩, h5⟩, h6⟩, h7⟩, h8⟩ := h
 subst hn
 have hb : env.blockKind = .function := by unfold Env.blockKind; rw [hk]; rfl
 unfold swappedStores
 have q1 : (Expr.Name x px).pos = px := rfl
 have q2 : (Expr.Name y py).pos = py := rfl
 have e1 : env.kindOf x = some .local := h2
 have e2 : env.kindOf y = some .local := h3
 have e4 : ([x, y] : List Str).eraseDups = [x, y] := by
  have : ¬ y = x := fun e => h5 e.symm
  simp [List.eraseDups_cons, this]
 dsimp only
 simp only [h1, hb, h6, h7, h8, List.length_cons, List.length_nil]
 simp [e1, e2, h4, e4, q1, q2]
 intro z hz hh
 rw [List.any_eq_false] at h6
 exact absurd hh (h6 z hz)
noncomputable def ySAsg (e : Stmt) : Option { p : List Expr × Expr // ∃ q, e = .Assign p.1 p.2 q } := if h : e.ctorIdx = 5 then Stmt.Assign.elim (motive_2 := fun e => Option { p : List Expr × Expr // ∃ q, e = .Assign p.1 p.2 q }) e h (fun ts v _ => some ⟨(ts, v), ⟨_, rfl⟩⟩) else none
noncomputable def sAsg (e : Stmt) : Option (List Expr × Expr) := (ySAsg e).map (·.1)
theorem sAsg_of {e : Stmt} {p : List Expr × Expr} (h : sAsg e = some p) : ∃ q, e = .Assign p.1 p.2 q := subOf (o := ySAsg e) h
noncomputable def ySExpr (e : Stmt) : Option { p : Expr // ∃ q, e = .Expr p q } := if h : e.ctorIdx = 24 then Stmt.Expr.elim (motive_2 := fun e => Option { p : Expr // ∃ q, e = .Expr p q }) e h (fun v _ => some ⟨v, ⟨_, rfl⟩⟩) else none
noncomputable def sExpr (e : Stmt) : Option (Expr) := (ySExpr e).map (·.1)
theorem sExpr_of {e : Stmt} {p : Expr} (h : sExpr e = some p) : ∃ q, e = .Expr p q := subOf (o := ySExpr e) h
noncomputable def ySIf (e : Stmt) : Option { p : Expr × List Stmt × List Stmt // ∃ q, e = .If p.1 p.2.1 p.2.2 q } := if h : e.ctorIdx = 12 then Stmt.If.elim (motive_2 := fun e => Option { p : Expr × List Stmt × List Stmt // ∃ q, e = .If p.1 p.2.1 p.2.2 q }) e h (fun t a b _ => some ⟨(t, a, b), ⟨_, rfl⟩⟩) else none
noncomputable def sIf (e : Stmt) : Option (Expr × List Stmt × List Stmt) := (ySIf e).map (·.1)
theorem sIf_of {e : Stmt} {p : Expr × List Stmt × List Stmt} (h : sIf e = some p) : ∃ q, e = .If p.1 p.2.1 p.2.2 q := subOf (o := ySIf e) h
noncomputable def ySWhl (e : Stmt) : Option { p : Expr × List Stmt × List Stmt // ∃ q, e = .While p.1 p.2.1 p.2.2 q } := if h : e.ctorIdx = 11 then Stmt.While.elim (motive_2 := fun e => Option { p : Expr × List Stmt × List Stmt // ∃ q, e = .While p.1 p.2.1 p.2.2 q }) e h (fun t b o _ => some ⟨(t, b, o), ⟨_, rfl⟩⟩) else none
noncomputable def sWhl (e : Stmt) : Option (Expr × List Stmt × List Stmt) := (ySWhl e).map (·.1)
theorem sWhl_of {e : Stmt} {p : Expr × List Stmt × List Stmt} (h : sWhl e = some p) : ∃ q, e = .While p.1 p.2.1 p.2.2 q := subOf (o := ySWhl e) h
noncomputable def ySFor (e : Stmt) : Option { p : Expr × Expr × List Stmt × List Stmt // ∃ q, e = .For p.1 p.2.1 p.2.2.1 p.2.2.2 q } := if h : e.ctorIdx = 9 then Stmt.For.elim (motive_2 := fun e => Option { p : Expr × Expr × List Stmt × List Stmt // ∃ q, e = .For p.1 p.2.1 p.2.2.1 p.2.2.2 q }) e h (fun t i b o _ => some ⟨(t, i, b, o), ⟨_, rfl⟩⟩) else none
noncomputable def sFor (e : Stmt) : Option (Expr × Expr × List Stmt × List Stmt) := (ySFor e).map (·.1)
theorem sFor_of {e : Stmt} {p : Expr × Expr × List Stmt × List Stmt} (h : sFor e = some p) : ∃ q, e = .For p.1 p.2.1 p.2.2.1 p.2.2.2 q := subOf (o := ySFor e) h
noncomputable def ySRet (e : Stmt) : Option { p : Option Expr // ∃ q, e = .Return p q } := if h : e.ctorIdx = 3 then Stmt.Return.elim (motive_2 := fun e => Option { p : Option Expr // ∃ q, e = .Return p q }) e h (fun v _ => some ⟨v, ⟨_, rfl⟩⟩) else none
noncomputable def sRet (e : Stmt) : Option (Option Expr) := (ySRet e).map (·.1)
theorem sRet_of {e : Stmt} {p : Option Expr} (h : sRet e = some p) : ∃ q, e = .Return p q := subOf (o := ySRet e) h
noncomputable def ySBrk (e : Stmt) : Option { p : Unit // ∃ q, e = .Break q } := if h : e.ctorIdx = 26 then Stmt.Break.elim (motive_2 := fun e => Option { p : Unit // ∃ q, e = .Break q }) e h (fun _ => some ⟨(), ⟨_, rfl⟩⟩) else none
noncomputable def sBrk (e : Stmt) : Option (Unit) := (ySBrk e).map (·.1)
theorem sBrk_of {e : Stmt} {p : Unit} (h : sBrk e = some p) : ∃ q, e = .Break q := subOf (o := ySBrk e) h
noncomputable def ySRaise (e : Stmt) : Option { p : Option Expr × Option Expr // ∃ q, e = .Raise p.1 p.2 q } := if h : e.ctorIdx = 16 then Stmt.Raise.elim (motive_2 := fun e => Option { p : Option Expr × Option Expr // ∃ q, e = .Raise p.1 p.2 q }) e h (fun e f _ => some ⟨(e, f), ⟨_, rfl⟩⟩) else none
noncomputable def sRaise (e : Stmt) : Option (Option Expr × Option Expr) := (ySRaise e).map (·.1)
theorem sRaise_of {e : Stmt} {p : Option Expr × Option Expr} (h : sRaise e = some p) : ∃ q, e = .Raise p.1 p.2 q := subOf (o := ySRaise e) h
noncomputable def ySTry (e : Stmt) : Option { p : List Stmt × List ExceptHandler × List Stmt × List Stmt // ∃ q, e = .Try p.1 p.2.1 p.2.2.1 p.2.2.2 q } := if h : e.ctorIdx = 17 then Stmt.Try.elim (motive_2 := fun e => Option { p : List Stmt × List ExceptHandler × List Stmt × List Stmt // ∃ q, e = .Try p.1 p.2.1 p.2.2.1 p.2.2.2 q }) e h (fun b h o f _ => some ⟨(b, h, o, f), ⟨_, rfl⟩⟩) else none
noncomputable def sTry (e : Stmt) : Option (List Stmt × List ExceptHandler × List Stmt × List Stmt) := (ySTry e).map (·.1)
theorem sTry_of {e : Stmt} {p : List Stmt × List ExceptHandler × List Stmt × List Stmt} (h : sTry e = some p) : ∃ q, e = .Try p.1 p.2.1 p.2.2.1 p.2.2.2 q := subOf (o := ySTry e) h
noncomputable def isCompE : E → Bool | .comp .. => true | _ => false
noncomputable def yXNameP (e : Expr) : Option { p : Str × Pos // e = .Name p.1 p.2 } := if h : e.ctorIdx = 23 then Expr.Name.elim (motive_1 := fun e => Option { p : Str × Pos // e = .Name p.1 p.2 }) e h (fun x p => some ⟨(x, p), rfl⟩) else none
noncomputable def xNameP (e : Expr) : Option (Str × Pos) := (yXNameP e).map (·.1)
theorem xNameP_of {e : Expr} {p : Str × Pos} (h : xNameP e = some p) : e = .Name p.1 p.2 := subOf (o := yXNameP e) h
noncomputable def chkPair (sc : Sc) (x y : Nat) (t v : Expr) : Bool := (xTup t).any fun ns => (two ns).any fun n => (xNameP n.1).any fun a => (xNameP n.2).any fun b => (xTup v).any fun vs =>
 isLoc sc false x a.1 && (isLoc sc false y b.1 && swapOk sc a.1 b.1 a.2 b.2 vs)
noncomputable def chkPairU (sc : Sc) (x y : Nat) (t v : Expr) : Bool := (xTup t).any fun ns => (two ns).any fun n => chkNm (isLoc sc false x) n.1 && (chkNm (isLoc sc false y) n.2 && (xCall v).isSome)
noncomputable def chkHead (sc : Sc) (x : Option Nat) (e : E) (s : Stmt) : Bool := match x with
 | some x => (sAsg s).any fun p => (one p.1).any fun t => chkNm (isLoc sc false x) t && (notComp p.2 && chkE sc false e p.2)
 | none => (sExpr s).any fun v => notComp v && chkE sc false e v
noncomputable def isTF (sc : Sc) (e : Expr) : Bool := chkNm (fun n => isGlob sc n && decide (n = "TreeFault")) e
noncomputable def isStrC (e : Expr) : Bool := (xCon e).any fun c => match c with | .str _ => true | _ => false
mutual
noncomputable def chkS (sc : Sc) : S → Stmt → Bool
 | .dead, _ => true
 | .asg x e, s => (sAsg s).any fun p => (one p.1).any fun t => chkNm (isLoc sc false x) t && ((notComp p.2 || isCompE e) && chkE sc false e p.2)
 | .asg2 x y e, s => (sAsg s).any fun p => (one p.1).any fun t => (chkPair sc x y t p.2 || chkPairU sc x y t p.2) && chkE sc false e p.2
 | .asgAttr o f e, s => (sAsg s).any fun p => (one p.1).any fun t => (xAttr t).any fun a => a.2.1 == fname f && (chkE sc false o a.1 && chkE sc false e p.2)
 | .asgIdx _ o i e, s => (sAsg s).any fun p => (one p.1).any fun t => (xSub t).any fun a => chkE sc false o a.1 && (chkE sc false i a.2 && chkE sc false e p.2)
 | .ex e, s => (sExpr s).any fun v => notComp v && chkE sc false e v
 | .ife c a b, s => (sIf s).any fun p => chkE sc false c p.1 && (chkSs sc a p.2.1 && chkSs sc b p.2.2)
 | .whl c b, s => (sWhl s).any fun p => p.2.2.isEmpty && (chkE sc false c p.1 && chkSs sc b p.2.1)
 | .for1 _ x it b, s => (sFor s).any fun p => p.2.2.2.isEmpty && (chkNm (isLoc sc false x) p.1 && (notSet p.2.1 && (chkE sc false it p.2.1 && chkSs sc b p.2.2.1)))
 | .ret e, s => (sRet s).any fun v => v.any (chkE sc false e)
 | .brk, s => (sBrk s).isSome
 | .raise c, s => (sRaise s).any fun p => c == 0 && (noneE p.2 && p.1.any fun e => (xCall e).any fun x => x.2.2.1.isEmpty && (isTF sc x.1 && (one x.2.1).any isStrC))
 | .tryx x e b c h, s => (sTry s).any fun p => p.2.2.1.isEmpty && (p.2.2.2.isEmpty && ((match p.1 with | s0 :: rest => chkHead sc x e s0 && chkSs sc b rest | [] => false) && (one p.2.1).any fun k => (match k with | .ExceptHandler ty nm hb _ => nm.isNone && (!hb.isEmpty && (ty.any (isTF sc) && (c == 0 && chkSs sc h hb))))))
noncomputable def chkSs (sc : Sc) : Ss → List Stmt → Bool
 | .nil, s => s.isEmpty
 | .cons s r, l => (match l with | x :: xs => chkS sc s x && chkSs sc r xs | [] => false)
end
section
variable {prog : Program} {w : World} {b₀ : Heap} {K : Frag} {mg mb : Str → Option Value} {A : Around}
variable {env : Env} {outer : List Env} {sc : Sc} {W0 W : Wd} {st0 st : St} {h0 : Heap} {loc : Loc} {s : Shared}
theorem val_wp {α : Type} {e : Expr} {m : M V × M Bool} {g : V → M α} {r : Except Nat α} {st' : St} (S : SI prog w b₀ A W0 st0 h0 sc env W st s.heap loc) (x : OkE prog w b₀ A sc false env loc Loc.none e m) (eq : m.1.bind g st = some (r, st'))
  {Q : Value → Shared → Prop} {E : Value → Shared → Prop}
  (hok : ∀ v rv W' st1 h' tk, SI prog w b₀ A W0 st0 h0 sc env W' st1 h' loc → RV w.params W' st1.n v rv → g v st1 = some (r, st') → Step (fAddrs A) W st s.heap W' st1 h' → Q rv ⟨h', s.gens, s.drawn, tk, s.os⟩)
  (herr : ∀ c ex W' h' tk, r = .error c → ExPost prog w b₀ A W0 st0 h0 W' st' h' c ex → E ex ⟨h', s.gens, s.drawn, tk, s.os⟩) : wpAny (model prog w) A (eval e env) Q E s := by
 exact (x W st s S.inv S.fr S.sk).1.go eq (fun v rv W₁ st₁ h₁ tk₁ I₁ S₁ R₁ e => hok v rv W₁ st₁ h₁ tk₁ (S.moved I₁ S₁) R₁ e S₁) fun c ex W₁ h₁ tk₁ hr X₁ => herr c ex W₁ h₁ tk₁ hr (S.step.transE S.inv X₁)
theorem test_wp {α : Type} {e : Expr} {m : M V × M Bool} {g : Bool → M α} {r : Except Nat α} {st' : St} (S : SI prog w b₀ A W0 st0 h0 sc env W st s.heap loc) (x : OkE prog w b₀ A sc false env loc Loc.none e m) (eq : m.2.bind g st = some (r, st'))
  {Q : Bool → Shared → Prop} {E : Value → Shared → Prop}
  (hok : ∀ b W' st1 h' tk, SI prog w b₀ A W0 st0 h0 sc env W' st1 h' loc → g b st1 = some (r, st') → Q b ⟨h', s.gens, s.drawn, tk, s.os⟩)
  (herr : ∀ c ex W' h' tk, r = .error c → ExPost prog w b₀ A W0 st0 h0 W' st' h' c ex → E ex ⟨h', s.gens, s.drawn, tk, s.os⟩) : wpAny (model prog w) A (isTrue e env (eval e env)) Q E s := by
 exact (x W st s S.inv S.fr S.sk).2.go eq (fun v rv W₁ st₁ h₁ tk₁ I₁ S₁ R₁ e => hok rv W₁ st₁ h₁ tk₁ (S.moved I₁ S₁) ((show v = rv from R₁) ▸ e)) fun c ex W₁ h₁ tk₁ hr X₁ => herr c ex W₁ h₁ tk₁ hr (S.step.transE S.inv X₁)
theorem SimS.go {β : Type} {t : Sem Flow} {m : M (Fl × Loc)} {g : Fl × Loc → M β} {r : Except Nat β} {st' : St} (x : SimS prog w b₀ A t W0 st0 h0 sc env s (m st)) (eq : m.bind g st = some (r, st')) {Q : Flow → Shared → Prop} {E : Value → Shared → Prop}
  (nx : ∀ loc' W' st1 h' tk, SI prog w b₀ A W0 st0 h0 sc env W' st1 h' loc' → g (.next, loc') st1 = some (r, st') → Q .next ⟨h', s.gens, s.drawn, tk, s.os⟩)
  (bk : ∀ loc' W' st1 h' tk, SI prog w b₀ A W0 st0 h0 sc env W' st1 h' loc' → g (.brk, loc') st1 = some (r, st') → Q .brk ⟨h', s.gens, s.drawn, tk, s.os⟩)
  (rt : ∀ v rv loc' W' st1 h' tk, SI prog w b₀ A W0 st0 h0 sc env W' st1 h' loc' → RV w.params W' st1.n v rv → g (.ret v, loc') st1 = some (r, st') → Q (.ret rv) ⟨h', s.gens, s.drawn, tk, s.os⟩)
  (er : ∀ c ex W' h' tk, r = .error c → ExPost prog w b₀ A W0 st0 h0 W' st' h' c ex → E ex ⟨h', s.gens, s.drawn, tk, s.os⟩) : wpAny (model prog w) A t Q E s := by
 unfold M.bind at eq
 cases q : m st with
 | none => rw [q] at eq; exact noC eq
 | some p =>
  cases p with
  | mk r1 st1 =>
   rw [q] at eq
   refine x r1 st1 q Q E (fun fl loc' f W' h' tk hr S' R' => ?_) fun c ex W' h' tk hr X' => ?_
   ·rw [hr] at eq
    cases fl with
    | next => cases f <;> first | exact nx loc' W' st1 h' tk S' eq | exact R'.elim
    | brk => cases f <;> first | exact bk loc' W' st1 h' tk S' eq | exact R'.elim
    | ret v => cases f <;> first | exact rt v _ loc' W' st1 h' tk S' R' eq | exact R'.elim
   ·rw [hr] at eq
    have e := inj2 eq
    exact er c ex W' h' tk e.1.symm (e.2 ▸ X')
theorem ss_asg (X : FX A env outer sc) (N : FN h0 env) {i : Nat} {y : Str} {py pos : Pos} {v : Expr} {m : M V × M Bool} (hl : isLoc sc false i y = true) (hsw : swapsWith v (some (.Name y py)) pos.line env = pure false) (x : OkE prog w b₀ A sc false env loc Loc.none v m) (S : SI prog w b₀ A W0 st0 h0 sc env W st s.heap loc) :
  SimS prog w b₀ A (exec (.Assign [.Name y py] v pos) env) W0 st0 h0 sc env s (m.1.bind (fun v => M.pure (.next, loc.put i v)) st) := by
 intro r st' eq Q E hQ hE
 refine wpAny_Assign_Name (val_wp S x eq (fun v rv W' st1 h' tk S' R' e' _ => store_any (s := ⟨h', s.gens, s.drawn, tk, s.os⟩) X N hl S' R' fun h2 tk2 S2 => ?_) hE) hsw
 obtain ⟨rfl, rfl⟩ := inj2 e'
 exact hQ .next _ .next W' h2 tk2 rfl S2 trivial
theorem ss_asgAttr (G : Gd w K b₀ mg mb) {o v : Expr} {f : Nat} {pos pos' : Pos} {mo mv : M V × M Bool} (xo : OkE prog w b₀ A sc false env loc Loc.none o mo) (xv : OkE prog w b₀ A sc false env loc Loc.none v mv) (S : SI prog w b₀ A W0 st0 h0 sc env W st s.heap loc) :
  SimS prog w b₀ A (exec (.Assign [.Attribute o (fname f) pos'] v pos) env) W0 st0 h0 sc env s ((mv.1.bind fun v => mo.1.bind fun ov => (setAttrV ov f v).bind fun _ => M.pure (.next, loc)) st) := by
 intro r st' eq Q E hQ hE
 refine plainObj_wpAny_Assign_Attribute (val_wp S xv eq (fun v rv W1 st1 h1 tk1 S1 R1 e1 _ => val_wp (s := ⟨h1, s.gens, s.drawn, tk1, s.os⟩) S1 xo e1 (fun ov rov W2 st2 h2 tk2 S2 R2 e2 P2 => ?_) hE) hE) swaps_attr
 exact (sim_setAttr G.X S2.inv R2 (R1.mono P2.le P2.grow)).go e2 (fun a b W3 st3 h3 tk3 I3 S3 R3 e => hQ .next _ .next W3 h3 tk3 (inj2 e).1.symm ((inj2 e).2 ▸ S2.moved I3 S3) trivial) fun c ex W3 h3 tk3 hr X3 => hE c ex W3 h3 tk3 hr (S2.step.transE S2.inv X3)
theorem ss_asgIdx {k : IK} (G : Gd w K b₀ mg mb) (hu : A.units + 100 < cLine) {o i v : Expr} {pos pos' : Pos} {mo mi mv : M V × M Bool} (xo : OkE prog w b₀ A sc false env loc Loc.none o mo) (xi : OkE prog w b₀ A sc false env loc Loc.none i mi) (xv : OkE prog w b₀ A sc false env loc Loc.none v mv) (S : SI prog w b₀ A W0 st0 h0 sc env W st s.heap loc) :
  SimS prog w b₀ A (exec (.Assign [.Subscript o i pos'] v pos) env) W0 st0 h0 sc env s ((mv.1.bind fun v => mo.1.bind fun ov => mi.1.bind fun iv => (setIdxV k ov iv v).bind fun _ => M.pure (.next, loc)) st) := by
 intro r st' eq Q E hQ hE
 refine wpAny_Assign_Subscript (val_wp S xv eq (fun v rv W1 st1 h1 tk1 S1 R1 e1 _ => val_wp (s := ⟨h1, s.gens, s.drawn, tk1, s.os⟩) S1 xo e1 (fun ov rov W2 st2 h2 tk2 S2 R2 e2 P2 => val_wp (s := ⟨h2, s.gens, s.drawn, tk2, s.os⟩) S2 xi e2 (fun iv riv W3 st3 h3 tk3 S3 R3 e3 P3 => ?_) hE) hE) hE) swaps_sub
 exact (sim_setIdx (s := ⟨h3, s.gens, s.drawn, tk3, s.os⟩) G.md.sm hu S3.inv (R2.mono P3.le P3.grow) R3 ((R1.mono P2.le P2.grow).mono P3.le P3.grow)).go e3 (fun a b W4 st4 h4 tk4 I4 S4 R4 e => hQ .next _ .next W4 h4 tk4 (inj2 e).1.symm ((inj2 e).2 ▸ S3.moved I4 S4) trivial) fun c ex W4 h4 tk4 hr X4 => hE c ex W4 h4 tk4 hr (S3.step.transE S3.inv X4)
theorem ss_ex {v : Expr} {pos : Pos} {m : M V × M Bool} (hk : env.scope.kind = .function) (hc : notComp v = true) (x : OkE prog w b₀ A sc false env loc Loc.none v m) (S : SI prog w b₀ A W0 st0 h0 sc env W st s.heap loc) :
  SimS prog w b₀ A (exec (.Expr v pos) env) W0 st0 h0 sc env s (m.1.bind (fun _ => M.pure (.next, loc)) st) := by
 intro r st' eq Q E hQ hE
 refine wpAny_Expr_any (val_wp S x eq (fun v rv W' st1 h' tk S' R' e' _ => ?_) hE) (by unfold interactive; rw [hk]; rfl) (swaps_plain hc)
 obtain ⟨rfl, rfl⟩ := inj2 e'
 exact hQ .next _ .next W' h' tk rfl S' trivial
theorem ss_ret {v : Expr} {pos : Pos} {m : M V × M Bool} (x : OkE prog w b₀ A sc false env loc Loc.none v m) (S : SI prog w b₀ A W0 st0 h0 sc env W st s.heap loc) :
  SimS prog w b₀ A (exec (.Return (some v) pos) env) W0 st0 h0 sc env s (m.1.bind (fun v => M.pure (.ret v, loc)) st) := by
 intro r st' eq Q E hQ hE
 refine wpAny_Return_some (val_wp S x eq (fun v rv W' st1 h' tk S' R' e' _ => ?_) hE)
 obtain ⟨rfl, rfl⟩ := inj2 e'
 exact hQ (.ret v) _ (.ret rv) W' h' tk rfl S' R'
theorem ss_brk {pos : Pos} (S : SI prog w b₀ A W0 st0 h0 sc env W st s.heap loc) : SimS prog w b₀ A (exec (.Break pos) env) W0 st0 h0 sc env s (M.pure (.brk, loc) st) := by
 intro r st' eq Q E hQ hE
 obtain ⟨rfl, rfl⟩ := inj2 eq
 exact wpAny_Break (hQ .brk _ .brk W s.heap s.toks rfl S trivial)
theorem ss_ife {t : Expr} {a b : List Stmt} {pos : Pos} {m : M V × M Bool} {ma mb' : M (Fl × Loc)} (x : OkE prog w b₀ A sc false env loc Loc.none t m) (S : SI prog w b₀ A W0 st0 h0 sc env W st s.heap loc)
  (xa : ∀ W st s, SI prog w b₀ A W0 st0 h0 sc env W st s.heap loc → SimS prog w b₀ A (execs a env) W0 st0 h0 sc env s (ma st))
  (xb : ∀ W st s, SI prog w b₀ A W0 st0 h0 sc env W st s.heap loc → SimS prog w b₀ A (execs b env) W0 st0 h0 sc env s (mb' st)) :
  SimS prog w b₀ A (exec (.If t a b pos) env) W0 st0 h0 sc env s (m.2.bind (fun t => if t then ma else mb') st) := by
 intro r st' eq Q E hQ hE
 refine wpAny_If (test_wp S x eq (fun b W' st1 h' tk S' e' => ?_) hE)
 cases b with
 | true => rw [if_pos rfl] at e' ⊢; exact xa W' st1 ⟨h', s.gens, s.drawn, tk, s.os⟩ S' r st' e' Q E hQ hE
 | false => rw [if_neg (by decide)] at e' ⊢; exact xb W' st1 ⟨h', s.gens, s.drawn, tk, s.os⟩ S' r st' e' Q E hQ hE
theorem ss_nil (S : SI prog w b₀ A W0 st0 h0 sc env W st s.heap loc) : SimS prog w b₀ A (execs [] env) W0 st0 h0 sc env s (M.pure (.next, loc) st) := by
 intro r st' eq Q E hQ hE
 obtain ⟨rfl, rfl⟩ := inj2 eq
 exact wpAny_execs_nil (hQ .next _ .next W s.heap s.toks rfl S trivial)
theorem ss_cons {x : Stmt} {xs : List Stmt} {m : M (Fl × Loc)} {ms : Loc → M (Fl × Loc)} (hx : SimS prog w b₀ A (exec x env) W0 st0 h0 sc env s (m st))
  (hs : ∀ loc' W st s, SI prog w b₀ A W0 st0 h0 sc env W st s.heap loc' → SimS prog w b₀ A (execs xs env) W0 st0 h0 sc env s (ms loc' st)) :
  SimS prog w b₀ A (execs (x :: xs) env) W0 st0 h0 sc env s (m.bind (fun fl => match fl with | (.next, loc') => ms loc' | fl => M.pure fl) st) := by
 intro r st' eq Q E hQ hE
 exact wpAny_execs_cons (hx.go eq (fun loc' W' st1 h' tk S' e => hs loc' W' st1 ⟨h', s.gens, s.drawn, tk, s.os⟩ S' r st' e Q E hQ hE) (fun loc' W' st1 h' tk S' e => hQ .brk loc' .brk W' h' tk (inj2 e).1.symm ((inj2 e).2 ▸ S') trivial)
  (fun v rv loc' W' st1 h' tk S' R' e => hQ (.ret v) loc' (.ret rv) W' h' tk (inj2 e).1.symm ((inj2 e).2 ▸ S') ((inj2 e).2 ▸ R')) hE)
end
section
variable {prog : Program} {w : World} {b₀ : Heap} {K : Frag} {mg mb : Str → Option Value} {A : Around}
variable {env : Env} {outer : List Env} {sc : Sc} {W0 W : Wd} {st0 st : St} {h0 : Heap} {loc : Loc} {s : Shared}
theorem ss_asg2 (X : FX A env outer sc) (N : FN h0 env) {i j : Nat} {a b : Str} {pa pb p1 p2 pos : Pos} {k1 k2 : Nat} {vs : List Expr} {m : M V × M Bool} (h1 : isLoc sc false i a = true) (h2 : isLoc sc false j b = true) (hsw : swapOk sc a b pa pb vs = true)
  (x : OkE prog w b₀ A sc false env loc Loc.none (.Tuple vs k2 p2) m) (S : SI prog w b₀ A W0 st0 h0 sc env W st s.heap loc) :
  SimS prog w b₀ A (exec (.Assign [.Tuple [.Name a pa, .Name b pb] k1 p1] (.Tuple vs k2 p2) pos) env) W0 st0 h0 sc env s (m.1.bind (fun v => onO v.tup? fun us => onO (two us) fun p => M.pure (.next, (loc.put i p.1).put j p.2)) st) := by
 intro r st' eq Q E hQ hE
 have hne : a ≠ b := by
  exact bne_iff_ne.mp (and2 (and2 (and2 (and2 hsw).1).1).1).2
 refine Assign_Tuple_swapped (names := [a, b]) (val_wp S x eq (fun v rv W' st1 h' tk S' R' e' _ => ?_) hE) rfl (swapped_ok S.fr.kind X.names hsw)
 obtain ⟨us, hu, e'⟩ := onO_some e'
 obtain ⟨⟨u1, u2⟩, hp, e'⟩ := onO_some e'
 obtain ⟨ad, rvs, kk, rfl, g1, g2⟩ := R'.ofTup hu
 obtain ⟨r1, r2, rfl, R1, R2⟩ := g2.ofTwo hp
 obtain ⟨rfl, rfl⟩ := inj2 e'
 refine unpackItems_any (s := ⟨h', s.gens, s.drawn, tk, s.os⟩) (items := #[r1, r2]) S'.sk.hd ⟨_, S'.inv.sub _ _ g1, rfl, _, rfl⟩ fun h1' he => ?_
 have hn : h'.get? h'.objs.size = none := Heap.get?_none_of_le (Nat.le_refl _)
 have oo := not_owned_fresh S'.inv hn
 have S1 : SI prog w b₀ A W0 st0 h0 sc env W' _ h1' loc := ⟨S'.inv.touch oo.1 oo.2 he, S'.step.touch (S'.step.noneB S'.inv hn) he, S'.fr.touch he (S'.fr.notLoc hn) (S'.fr.notCell hn), S'.sk.touch he (S'.sk.notMem hn)⟩
 show wpAny _ _ (PySem.holding [r1] (bindName env b r2) >>= fun _ => PySem.holding [] (bindName env a r1) >>= fun _ => pure ()) _ _ _
 refine wpAny_bind (wpAny_holding (wpAny_bindName (store_any (s := ⟨h1', s.gens, s.drawn, tk, s.os⟩) X N h2 S1 R2 fun h3 tk3 S3 => ?_)))
 refine wpAny_bind (wpAny_holding (wpAny_bindName (store_any (s := ⟨h3, s.gens, s.drawn, tk3, s.os⟩) X N h1 S3 R1 fun h4 tk4 S4 => wpAny_pure ?_)))
 have hij : i ≠ j := fun e => by
  obtain ⟨z1, _⟩ := and2 (and2 h1).1
  obtain ⟨z2, _⟩ := and2 (and2 h2).1
  exact hne (by rw [beq_iff_eq.mp z1, beq_iff_eq.mp z2, e])
 have e5 : (loc.put i u1).put j u2 = (loc.put j u2).put i u1 := by
  funext k
  unfold Loc.put
  by_cases q1 : k = j
  ·rw [if_pos q1, if_neg (fun q2 => hij (q2.symm.trans q1)), if_pos q1]
  ·rw [if_neg q1, if_neg q1]
 exact hQ .next _ .next W' h4 tk4 rfl (e5 ▸ S4) trivial
theorem ss_asg2u (X : FX A env outer sc) (N : FN h0 env) {i j : Nat} {a b : Str} {pa pb p1 pos : Pos} {k1 : Nat} {v : Expr} {m : M V × M Bool} (h1 : isLoc sc false i a = true) (h2 : isLoc sc false j b = true) (hv : (xCall v).isSome = true)
  (x : OkE prog w b₀ A sc false env loc Loc.none v m) (S : SI prog w b₀ A W0 st0 h0 sc env W st s.heap loc) :
  SimS prog w b₀ A (exec (.Assign [.Tuple [.Name a pa, .Name b pb] k1 p1] v pos) env) W0 st0 h0 sc env s (m.1.bind (fun v => onO v.tup? fun us => onO (two us) fun p => M.pure (.next, (loc.put i p.1).put j p.2)) st) := by
 intro r st' eq Q E hQ hE
 obtain ⟨c, hc⟩ := Option.isSome_iff_exists.mp hv
 obtain rfl := (xCall_of hc : _ = _)
 refine Assign_Tuple (val_wp S x eq (fun v rv W' st1 h' tk S' R' e' _ => ?_) hE)
 obtain ⟨us, hu, e'⟩ := onO_some e'
 obtain ⟨⟨u1, u2⟩, hp, e'⟩ := onO_some e'
 obtain ⟨ad, rvs, kk, rfl, g1, g2⟩ := R'.ofTup hu
 obtain ⟨r1, r2, rfl, R1, R2⟩ := g2.ofTwo hp
 obtain ⟨rfl, rfl⟩ := inj2 e'
 rw [arm_assign_Tuple]
 refine wpAny_bind (wpAny_standAt (unpack_any (s := ⟨h', s.gens, s.drawn, tk, s.os⟩) (items := #[r1, r2]) S'.sk.hd ⟨_, S'.inv.sub _ _ g1, rfl, _, rfl⟩ rfl rfl fun h1' he => ?_))
 have hn : h'.get? h'.objs.size = none := Heap.get?_none_of_le (Nat.le_refl _)
 have oo := not_owned_fresh S'.inv hn
 have S1 : SI prog w b₀ A W0 st0 h0 sc env W' _ h1' loc := ⟨S'.inv.touch oo.1 oo.2 he, S'.step.touch (S'.step.noneB S'.inv hn) he, S'.fr.touch he (S'.fr.notLoc hn) (S'.fr.notCell hn), S'.sk.touch he (S'.sk.notMem hn)⟩
 refine wpAny_bind (wpAny_holding (wpAny_assign_Name (store_any (s := ⟨h1', s.gens, s.drawn, tk, s.os⟩) X N h1 S1 R1 fun h3 tk3 S3 => ?_)))
 refine wpAny_bind (wpAny_holding (wpAny_assign_Name (store_any (s := ⟨h3, s.gens, s.drawn, tk3, s.os⟩) X N h2 S3 R2 fun h4 tk4 S4 => wpAny_pure ?_)))
 exact hQ .next _ .next W' h4 tk4 rfl S4 trivial
noncomputable def WI (prog : Program) (w : World) (b₀ : Heap) (A : Around) (W0 : Wd) (st0 : St) (h0 : Heap) (sc : Sc) (env : Env) (f : Nat → Loc → M (Fl × Loc)) (p : Except Nat (Fl × Loc) × St) (g : Array GenState) (dr : Drawn) (os : OsState) (n : Nat) (s' : Shared) : Prop := ∀ C : Prop,
 (∀ W st h tk loc, s' = ⟨h, g, dr, tk, os⟩ → SI prog w b₀ A W0 st0 h0 sc env W st h loc → f n loc st = some p → C) → C
section
variable {R : Result → Shared → Prop} {g : Array GenState} {dr : Drawn} {os : OsState} {r : Except Nat (Fl × Loc)} {st' : St} {body : List Stmt} {mbd : Loc → M (Fl × Loc)}
theorem whl_core {t : Expr} {mt : Loc → M V × M Bool} (xt : ∀ loc, OkE prog w b₀ A sc false env loc Loc.none t (mt loc))
  (xb : ∀ loc W st s, SI prog w b₀ A W0 st0 h0 sc env W st s.heap loc → SimS prog w b₀ A (execs body env) W0 st0 h0 sc env s (mbd loc st))
  (hok : ∀ fl loc' f W' h' tk, r = .ok (fl, loc') → SI prog w b₀ A W0 st0 h0 sc env W' st' h' loc' → RFl w.params W' st'.n fl f → R (.ok f) ⟨h', g, dr, tk, os⟩)
  (her : ∀ c ex W' h' tk, r = .error c → ExPost prog w b₀ A W0 st0 h0 W' st' h' c ex → notedBy (model prog w) A env (fun e s' => R (.error e) s') ex ⟨h', g, dr, tk, os⟩)
  (n : Nat) {h : Heap} {tk : Nat} (S : SI prog w b₀ A W0 st0 h0 sc env W st h loc) (eq : whlL (fun l => (mt l).2) mbd n loc st = some (r, st')) : codeAny (model prog w) A (.whileLoop t body [] env) R ⟨h, g, dr, tk, os⟩ := by
 refine codeAny_whileLoop (WI prog w b₀ A W0 st0 h0 sc env (whlL (fun l => (mt l).2) mbd) (r, st') g dr os) (fun n s' H => H _ fun W st h tk loc es S eq => ?_) n (fun C k => k W st h tk loc rfl S eq)
 rw [es]
 cases n with
 | zero => exact noC eq
 | succ n =>
  refine test_wp (s := ⟨h, g, dr, tk, os⟩) S (xt loc) eq (fun b W1 st1 h1 tk1 S1 eq => ?_) her
  cases b with
  | false => exact wpAny_execs_nil (hok .next loc .next W1 h1 tk1 (inj2 eq).1.symm ((inj2 eq).2 ▸ S1) trivial)
  | true =>
   exact (xb loc W1 st1 ⟨h1, g, dr, tk1, os⟩ S1).go eq (fun loc' W2 st2 h2 tk2 S2 eq => ⟨n, lts _, fun C k => k W2 st2 h2 tk2 loc' rfl S2 eq⟩) (fun loc' W2 st2 h2 tk2 S2 eq => hok .next loc' .next W2 h2 tk2 (inj2 eq).1.symm ((inj2 eq).2 ▸ S2) trivial)
    (fun v rv loc' W2 st2 h2 tk2 S2 R2 eq => hok (.ret v) loc' (.ret rv) W2 h2 tk2 (inj2 eq).1.symm ((inj2 eq).2 ▸ S2) ((inj2 eq).2 ▸ R2)) her
end
theorem loop_err (X : FX A env outer sc) {g : Array GenState} {dr : Drawn} {os : OsState} {E : Value → Shared → Prop} {R : Result → Shared → Prop} {W' : Wd} {st' : St} {h' : Heap} {tk c : Nat} {ex : Value} (hR : ∀ e s', cameBackBy (model prog w) A env E e s' → R (.error e) s')
  (x : ExPost prog w b₀ A W0 st0 h0 W' st' h' c ex) (hE : ∀ h', ExPost prog w b₀ A W0 st0 h0 W' st' h' c ex → E ex ⟨h', g, dr, tk, os⟩) : notedBy (model prog w) A env (fun e s' => R (.error e) s') ex ⟨h', g, dr, tk, os⟩ :=
 ex_note x X.frames X.frame fun h2 x2 t2 => hR _ _ (ex_back X.frames X.frame x2 (t2.elim fun a t => ⟨a, t.1, t.2.elim fun b t => ⟨b, _, t⟩⟩) fun h3 x3 => hE h3 x3)
theorem ss_whl (X : FX A env outer sc) {t : Expr} {body : List Stmt} {pos : Pos} {mt : Loc → M V × M Bool} {mbd : Loc → M (Fl × Loc)}
  (xt : ∀ loc, OkE prog w b₀ A sc false env loc Loc.none t (mt loc))
  (xb : ∀ loc W st s, SI prog w b₀ A W0 st0 h0 sc env W st s.heap loc → SimS prog w b₀ A (execs body env) W0 st0 h0 sc env s (mbd loc st)) (n : Nat) (S : SI prog w b₀ A W0 st0 h0 sc env W st s.heap loc) :
  SimS prog w b₀ A (exec (.While t body [] pos) env) W0 st0 h0 sc env s (whlL (fun l => (mt l).2) mbd n loc st) := by
 intro r st' eq Q E hQ hE
 exact wpAny_While (whl_core (g := s.gens) (dr := s.drawn) (os := s.os) (tk := s.toks) xt xb hQ (fun c ex W' h' tk hr x => loop_err X (fun e s' h => h) x fun h3 x3 => hE c ex W' h3 tk hr x3) n S eq)
theorem Step.toErase {X : List Addr} {h : Heap} {F : List Addr} (S : Step F W0 st0 h0 W st h) (hX : ∀ a ∈ X, h0.get? a = none) : Step F W0 st0 h0 W st (erase h X) :=
 ⟨S.grow, S.le, S.fresh, S.newB, fun a o e ho hf => by
  rw [get_erase, if_neg (fun q => by rw [hX a q] at e; (exact noC e))]; exact S.exact a o e ho hf, fun a o e ho => by
  rw [get_erase, if_neg (fun q => by rw [hX a q] at e; (exact noC e))]; exact S.slots a o e ho⟩
theorem Step.ofErase {X : List Addr} {h : Heap} {F : List Addr} : Step F W st (erase h X) W st h :=
 .of_kept fun a o e => by rw [get_erase] at e; split at e; (exact noC e); exact e
theorem Inv.toErase {X : List Addr} {h : Heap} (I : Inv prog w b₀ W st h) (hX : ∀ a ∈ X, ¬ Owned W st.n a ∧ W.B a = none) : Inv prog w b₀ W st (erase h X) :=
 I.ofKept fun a o e hq => by
  rw [get_erase, if_neg]
  ·exact e
  ·intro q
   obtain ⟨h1, h2⟩ := hX a q
   rcases hq with hq | ⟨o', hq⟩
   ·exact h1 hq
   ·rw [h2] at hq; exact noC hq
theorem lock_some {α : Type} {kk : FK} {v : V} {m : M α} {st : St} {p : Except Nat α × St} {C : Prop} (e : ((lockV kk v).bind fun _ => m) st = some p) (k : ∀ u st2, lockV kk v st = some (u, st2) → (u = .ok () → m st2 = some p) → C) : C := by
 unfold M.bind at e
 cases q : lockV kk v st with
 | none => rw [q] at e; exact noC e
 | some p2 =>
  cases p2 with
  | mk a b => rw [q] at e; exact k a b q fun z => by rw [z] at e; exact e
noncomputable def cutX (env : Env) : List Addr := env.locals :: env.cells.map (·.2)
theorem cut_all {env : Env} {P : Addr → Prop} (h1 : P env.locals) (h2 : ∀ y c, (y, c) ∈ env.cells → P c) : ∀ a ∈ cutX env, P a := fun a ha =>
 (List.mem_cons.mp ha).elim (fun e => e ▸ h1) fun ha => (List.mem_map.mp ha).elim fun p h => h.2 ▸ h2 p.1 p.2 h.1
theorem FN.cut (h : Heap) (env : Env) : FN (erase h (cutX env)) env := ⟨(get_erase ..).trans (if_pos (List.mem_cons_self ..)), fun y c hm => (get_erase ..).trans (if_pos (List.mem_cons_of_mem _ (List.mem_map.mpr ⟨(y, c), hm, rfl⟩)))⟩
noncomputable def FI1 (prog : Program) (w : World) (b₀ : Heap) (A : Around) (W0 : Wd) (st0 : St) (h0 : Heap) (sc : Sc) (env : Env) (kk : FK) (v : V) (rv : Value) (It : Addr) (f : Nat → Nat → Loc → M (Fl × Loc)) (p : Except Nat (Fl × Loc) × St) (g : Array GenState) (dr : Drawn) (os : OsState) (n : Nat) (s' : Shared) : Prop := ∀ C : Prop,
 (∀ W st h tk loc i', s' = ⟨h, g, dr, tk, os⟩ → SI prog w b₀ A W0 st0 h0 sc env W st h loc → RV w.params W st.n v rv → ItAt W h kk v rv It i' → (¬ Owned W st.n It ∧ W.B It = none) → f n i' loc st = some p → C) → C
section
variable {R : Result → Shared → Prop} {g : Array GenState} {dr : Drawn} {os : OsState} {r : Except Nat (Fl × Loc)} {st' : St} {body : List Stmt} {mbd : Loc → M (Fl × Loc)} {q : Bool} {kk : FK} {v : V} {rv : Value} {It : Addr} {i : Nat} {y : Str} {py : Pos}
theorem for_core (X : FX A env outer sc) (N : FN h0 env) (hh : q = true → A.handled = none) (hl : isLoc sc false i y = true)
  (xb : ∀ W0 st0 h0 loc W st s, FN h0 env → SI prog w b₀ A W0 st0 h0 sc env W st s.heap loc → SimS prog w b₀ A (execs body env) W0 st0 h0 sc env s (mbd loc st))
  (nIt : h0.get? It = none) (aI : Away A It) (iL : It ≠ env.locals) (iC : ∀ y c, (y, c) ∈ env.cells → It ≠ c)
  (hok : ∀ fl loc' f W' h' tk, r = .ok (fl, loc') → SI prog w b₀ A W0 st0 h0 sc env W' st' h' loc' → RFl w.params W' st'.n fl f → R (.ok f) ⟨h', g, dr, tk, os⟩)
  (her : ∀ c ex W' h' tk, r = .error c → ExPost prog w b₀ A W0 st0 h0 W' st' h' c ex → notedBy (model prog w) A env (fun e s' => R (.error e) s') ex ⟨h', g, dr, tk, os⟩)
  (n : Nat) {h : Heap} {tk i' : Nat} (S : SI prog w b₀ A W0 st0 h0 sc env W st h loc) (Rv : RV w.params W st.n v rv) (it : ItAt W h kk v rv It i') (oI : ¬ Owned W st.n It ∧ W.B It = none) (eq : forL q mbd i kk v n i' loc st = some (r, st')) :
  codeAny (model prog w) A (.forLoop (.Name y py) (.ref It) body [] env) R ⟨h, g, dr, tk, os⟩ := by
 refine codeAny_forLoop (FI1 prog w b₀ A W0 st0 h0 sc env kk v rv It (forL q mbd i kk v) (r, st') g dr os) (fun n s' H => H _ fun W st h tk loc i' es S Rv it oI eq => ?_) n (fun C k => k W st h tk loc i' rfl S Rv it oI eq)
 rw [es]
 cases n with
 | zero => exact noC eq
 | succ n =>
  refine (onO_some eq).elim fun o e => ?_
  cases o with
  | none =>
   have e2 := onP_some e.2
   exact it_end (s := ⟨h, g, dr, tk, os⟩) (hh e2.1) S.inv Rv it e.1 fun h' tk' he => wpAny_execs_nil (hok .next loc .next W h' tk' (inj2 e2.2).1.symm ((inj2 e2.2).2 ▸ ⟨S.inv.touch oI.1 oI.2 he, S.step.touch nIt he, S.fr.touch he iL iC, S.sk.touch he aI⟩) trivial)
  | some u =>
   refine it_next (s := ⟨h, g, dr, tk, os⟩) S.inv Rv it e.1 fun ru h1 tk1 Ru it1 hs1 => ?_
   have he1 := hs1.extBut
   have S1 : SI prog w b₀ A W0 st0 h0 sc env W st h1 loc := ⟨S.inv.touch oI.1 oI.2 he1, S.step.touch nIt he1, S.fr.touch he1 iL iC, S.sk.touch he1 aI⟩
   have B1 := S1.step.toErase (X := cutX env) (cut_all N.loc N.cell)
   have J1 := S1.inv.toErase (X := cutX env) (cut_all (P := fun a => ¬ Owned W st.n a ∧ W.B a = none) S1.fr.out fun y c hm => ⟨(S1.fr.outc y c hm).1, (S1.fr.outc y c hm).2.1⟩)
   refine it1.there.elim fun oI1 eI1 => ?_
   have eI2 : (erase h1 (cutX env)).get? It = some oI1 := by rw [get_erase, if_neg fun ha => cut_all (P := fun a => It ≠ a) iL iC It ha rfl]; exact eI1
   refine wpAny_assign_Name (store_any (s := ⟨h1, g, dr, tk1, os⟩) X (FN.cut h1 env) (loc := loc) hl ⟨S1.inv, .ofErase, S1.fr, S1.sk⟩ Ru fun h2 tk2 S2 => ?_)
   refine (xb W st (erase h1 (cutX env)) (loc.put i u) W st ⟨h2, g, dr, tk2, os⟩ (FN.cut h1 env) S2).go e.2 (fun loc' W3 st2 h3 tk3 S3 eq => ?_) (fun loc' W3 st2 h3 tk3 S3 eq => hok .next loc' .next W3 h3 tk3 (inj2 eq).1.symm ((inj2 eq).2 ▸ ⟨S3.inv, B1.trans J1 S3.step, S3.fr, S3.sk⟩) trivial)
    (fun v rv loc' W3 st2 h3 tk3 S3 R3 eq => hok (.ret v) loc' (.ret rv) W3 h3 tk3 (inj2 eq).1.symm ((inj2 eq).2 ▸ ⟨S3.inv, B1.trans J1 S3.step, S3.fr, S3.sk⟩) ((inj2 eq).2 ▸ R3)) fun c ex W3 h3 tk3 hr X3 => her c ex W3 h3 tk3 hr (B1.transE J1 X3)
   exact ⟨n, lts _, fun C k => k W3 st2 h3 tk3 loc' (i' + 1) rfl ⟨S3.inv, B1.trans J1 S3.step, S3.fr, S3.sk⟩ (Rv.mono S3.step.le S3.step.grow) (it1.keep S3.step.le fun o e => by rw [eI1] at e; exact S3.step.exact _ _ (eI2.trans e) oI.1 (.inl aI.1)) ⟨S3.step.notOwned eI2 oI.1, S3.step.notB eI2 oI.1 oI.2⟩ eq⟩
end
theorem ss_for (G : Gd w K b₀ mg mb) (X : FX A env outer sc) (N : FN h0 env) {q : Bool} {kk : FK} (hh : q = true → A.handled = none) {i : Nat} {y : Str} {py pos : Pos} {iter : Expr} {body : List Stmt} {mi : M V × M Bool} {mbd : Loc → M (Fl × Loc)}
  (hl : isLoc sc false i y = true) (hns : notSet iter = true) (xi : OkE prog w b₀ A sc false env loc Loc.none iter mi)
  (xb : ∀ W0 st0 h0 loc W st s, FN h0 env → SI prog w b₀ A W0 st0 h0 sc env W st s.heap loc → SimS prog w b₀ A (execs body env) W0 st0 h0 sc env s (mbd loc st)) (n : Nat) (S : SI prog w b₀ A W0 st0 h0 sc env W st s.heap loc) :
  SimS prog w b₀ A (exec (.For (.Name y py) iter body [] pos) env) W0 st0 h0 sc env s ((mi.1.bind fun v => (lockV kk v).bind fun _ => forL q mbd i kk v n 0 loc) st) := by
 intro r st' eq Q E hQ hE
 refine wpAny_For (val_wp S xi eq (fun v rv W1 st1 h1 tk1 S1 R1 e1 _ => ?_) hE) (fun x => by cases iter <;> first | rfl | (exact nfC hns))
 refine lock_some e1 fun u2 st2 q2 e1 => it_start (s := ⟨h1, s.gens, s.drawn, tk1, s.os⟩) G.md.sm S1.inv R1 q2 fun W2 h2 eu I2 P2 R2 it2 hIn oIt => ?_
 exact for_core (g := s.gens) (dr := s.drawn) (os := s.os) X N hh hl xb (S1.step.noneB S1.inv hIn) (S1.sk.notMem hIn) (S1.fr.notLoc hIn) (S1.fr.notCell hIn) hQ (fun c ex W' h' tk hr x => loop_err X (fun e s' h => h) x fun h3 x3 => hE c ex W' h3 tk hr x3) n (S1.moved I2 P2) R2 it2 oIt (e1 eu)
end
section
variable {prog : Program} {w : World} {b₀ : Heap} {K : Frag} {mg mb : Str → Option Value} {A : Around}
variable {env : Env} {outer : List Env} {sc : Sc} {W0 W : Wd} {st0 st : St} {h0 : Heap} {loc : Loc} {s : Shared}
theorem bind_some {α β : Type} {m : M α} {g : α → M β} {st : St} {p : Except Nat β × St} {C : Prop} (e : m.bind g st = some p) (k : ∀ r1 st1, m st = some (r1, st1) → (∀ a, r1 = .ok a → g a st1 = some p) → (∀ c, r1 = .error c → p = (.error c, st1)) → C) : C := by
 unfold M.bind at e
 cases q : m st with
 | none => rw [q] at e; exact noC e
 | some p1 =>
  cases p1 with
  | mk r1 st1 =>
   rw [q] at e
   exact k r1 st1 q (fun a h => by rw [h] at e; exact e) fun c h => by rw [h] at e; exact (inj1 e).symm
theorem slot_away {W : Wd} {st : St} {D C : Addr} {ob : Ob} (h : ¬ Owned W st.n C ∧ W.B C = none) (hDC : D ≠ C) : ¬ Owned (W.slot st.n D D) (st.push ob).n C ∧ (W.slot st.n D D).B C = none := by
 refine ⟨fun ⟨j, hj, hz⟩ => ?_, h.2⟩
 by_cases q : j = st.n
 ·rw [q, Wd.slot_ρ, Wd.slot_σ] at hz
  exact hz.elim (fun e => hDC e.symm) fun e => hDC e.symm
 ·have hj' : j < st.n := Nat.lt_of_le_of_ne (Nat.le_of_lt_succ hj) q
  have l := (W.le_slot (n := st.n) (a := D) (d := D)).1 j hj'
  rw [l.1, l.2] at hz
  exact h.1 ⟨j, hj', hz⟩
theorem ss_asg_comp (G : Gd w K b₀ mg mb) {q : Bool} {kk : FK} (hh : q = true → A.handled = none) (X : FX A env outer sc) (N : FN h0 env) {i : Nat} {y : Str} {py spos : Pos} (hl : isLoc sc false i y = true) {elt target iter : Expr} {ifs : List Expr} {scope : Scope} {pos : Pos} {tg : List Nat} {mi : M V × M Bool} {me : Loc → M V × M Bool} {mc : Loc → M Bool}
  (hsw : swapsWith (.ListComp elt [⟨target, iter, ifs, 0⟩] scope pos) (some (.Name y py)) spos.line env = pure true)
  (hns : notSet iter = true) (hsc : okScope sc scope = true) (hct : chkTg scope.names tg target = true) (hi : OkE prog w b₀ A sc false env loc Loc.none iter mi)
  (he : ∀ env' l, OkE prog w b₀ A scope.names true env' l loc elt (me l))
  (hcd : ∀ env' l W st s, Inv prog w b₀ W st s.heap → FR w W st.n env' (cxC scope.names) l loc s.heap → SK A W st.n s.heap →
   Sim prog w b₀ A (forIn ifs true fun c r => if r = true then do let ok ← isTrue c env' (eval c env'); pure (ForInStep.yield ok) else pure (ForInStep.yield r)) W st s RlB (mc l st))
  (S : SI prog w b₀ A W0 st0 h0 sc env W st s.heap loc) :
  SimS prog w b₀ A (exec (.Assign [.Name y py] (.ListComp elt [⟨target, iter, ifs, 0⟩] scope pos) spos) env) W0 st0 h0 sc env s
   ((trV (mi.1.bind fun v => (lockV kk v).bind fun _ => (compL q (fun l => (me l).1) mc tg kk v fuelW 0 Loc.none []).bind fun xs => mPush (.list xs))).1.bind (fun v => M.pure (.next, loc.put i v)) st) := by
 intro r st' eq Q E hQ hE
 have e0 : ((trV (mi.1.bind fun v => (lockV kk v).bind fun _ => (compL q (fun l => (me l).1) mc tg kk v fuelW 0 Loc.none []).bind fun xs => mPush (.list xs))).1.bind (fun v => M.pure ((Fl.next, loc.put i v) : Fl × Loc))) =
   (mi.1.bind fun v => (lockV kk v).bind fun _ => compL q (fun l => (me l).1) mc tg kk v fuelW 0 Loc.none []).bind fun xs => (mPush (.list xs)).bind (fun v => M.pure ((Fl.next, loc.put i v) : Fl × Loc)) := by
  show (mi.1.bind _).bind _ = _
  rw [M.bind_assoc, M.bind_assoc]
  exact congrArg (M.bind mi.1) (funext fun v => by rw [M.bind_assoc]; exact (congrArg (M.bind (lockV kk v)) (funext fun _ => M.bind_assoc ..)).trans (M.bind_assoc ..).symm)
 rw [e0] at eq
 rw [exec_Assign_Name_used _ _ _ _ hsw]
 refine wpAny_bind (wpAny_standAt (wpAny_bind ?_))
 show wpAny _ A (do let _ ← comprehension (.ListComp elt [⟨target, iter, ifs, 0⟩] scope pos) scope env _ (newList []) false (eval iter env) (some (assign (.Name y py) env))) _ _ s
 refine wpAny_bind ?_
 refine bind_some eq fun r1 stF q1 h1 h2 => comp_free (use := some (assign (.Name y py) env)) G.md.sm hh hns hsc hct hi he hcd S.inv S.fr S.sk q1 (fun xs D C W' h' tk vs hr I' S' pl Rs oD nsC oC nD nC hDC => ?_) fun c ex W' h' tk hr X => hE c ex W' h' tk (Prod.mk.inj (h2 c hr)).1 ((Prod.mk.inj (h2 c hr)).2 ▸ S.step.transE S.inv X)
 have e2 := inj2 (h1 xs hr)
 refine pl.elim fun k eD => nsC.elim fun m hm => ?_
 have J3 := I'.adopt (d := D) (ob := .list xs) oD.1 oD.2 (Heap.SameBut.refl ..) ⟨_, eD⟩ ⟨vs, by rw [Wd.slot_ρ]; exact pl.isList, Rs.mono W'.le_slot (Nat.le_succ _), fun o q => by rw [Wd.slot_ρ, eD] at q; exact inj1 q ▸ ⟨rfl, rfl⟩⟩ S' nD
 have R3 : RV w.params (W'.slot stF.n D D) (stF.n + 1) (.ref stF.n) (.ref D) := ⟨by rw [Wd.slot_ρ], lts _⟩
 have cL : C ≠ env.locals := S.fr.notLoc nC
 show wpAny _ A (assign (.Name y py) env (.ref D)) _ _ _
 refine wpAny_assign_Name (store_any' (s := ⟨h', s.gens, s.drawn, tk, s.os⟩) X N hl (S.moved J3.1 J3.2) R3 fun h4 tk4 S4 kp => ?_)
 obtain ⟨o, es, ep, eC, r⟩ := hm
 have oC3 := slot_away (ob := .list xs) oC hDC
 refine ⟨m, ⟨o, es, ep, kp C o eC cL (S.fr.notCell nC), r⟩, fun h5 hs5 => wpAny_pure (wpAny_pure (hQ .next _ .next (W'.slot stF.n D D) h5 tk4 e2.1.symm ?_ trivial))⟩
 rw [← e2.2]
 exact ⟨S4.inv.touch oC3.1 oC3.2 hs5.extBut, S4.step.touch (S.step.noneB S.inv nC) hs5.extBut, S4.fr.touch hs5.extBut cL (S.fr.notCell nC), S4.sk.touch hs5.extBut (S.sk.notMem nC)⟩
end
section
variable {prog : Program} {w : World} {b₀ : Heap} {K : Frag} {mg mb : Str → Option Value} {A : Around}
variable {env : Env} {outer : List Env} {sc : Sc} {W0 W : Wd} {st0 st : St} {h0 : Heap} {loc : Loc} {s : Shared}
theorem FX.mark {e : Value} (X : FX A env outer sc) : FX (A.mark (some e)) env outer sc := ⟨X.frames, X.frame, X.names⟩
theorem SI.unmark {e : Value} {h : Heap} (hh : A.handled = none) (S : SI prog w b₀ (A.mark (some e)) W0 st0 h0 sc env W st h loc) : SI prog w b₀ A W0 st0 h0 sc env W st h loc :=
 ⟨S.inv, S.step, S.fr, ⟨S.sk.fr, fun e he => (by rw [hh] at he; (exact noC he)), fun e he => (by rw [hh] at he; (exact noC he))⟩⟩
theorem SI.caught {W' : Wd} {st' : St} {h' : Heap} {ea : Addr} {cls fl : Value} {base : Heap} (S : SI prog w b₀ A W0 st0 h0 sc env W st s.heap loc) (x : ExPost prog w b₀ A W st s.heap W' st' h' 0 (.ref ea)) (t : TracedC h' base ea cls fl) :
  SI prog w b₀ (A.mark (some (.ref ea))) W0 st0 h0 sc env W' st' h' loc := by
 have Kk := S.sk.step x.step
 obtain ⟨oe, vs, T, oT, ts, he, hcls, hd, h1, h2, _⟩ := t
 refine ⟨x.inv, S.step.trans S.inv x.step, S.fr.step x.step, ⟨Kk.fr, fun e he' => ?_, fun ea' he' => ?_⟩⟩
 ·have : e = .ref ea := by (obtain rfl := inj1 he'); rfl
  subst this
  exact ⟨ea, oe, vs, rfl, he, hd, h2⟩
 ·have : ea' = ea := by cases he'; rfl
  subst this
  intro ho
  obtain ⟨ea2, base, e2, _, hen, _, _, hall⟩ := x.ex
  cases e2
  have := hall ea' oe he (.inr (.inl ho)) fun q => (x.fro _ q).1 ho
  rw [hen] at this; exact noC this
theorem SimS.goS {t : Sem Flow} {m : M (Fl × Loc)} {r : Except Nat (Fl × Loc)} {st' : St} (x : SimS prog w b₀ A t W0 st0 h0 sc env s (m st)) (eq : sealM m st = some (r, st')) {Q : Flow → Shared → Prop} {E : Value → Shared → Prop}
  (hQ : ∀ fl loc' f W' h' tk, r = .ok (fl, loc') → SI prog w b₀ A W0 st0 h0 sc env W' st' h' loc' → RFl w.params W' st'.n fl f → Q f ⟨h', s.gens, s.drawn, tk, s.os⟩) : wpAny (model prog w) A t Q E s := by
 unfold sealM at eq
 cases q : m st with
 | none => rw [q] at eq; exact noC eq
 | some p =>
  cases p with
  | mk r2 st2 =>
   rw [q] at eq
   cases r2 with
   | error c => exact noC eq
   | ok fl =>
    have e := inj2 eq
    rw [e.2] at q
    exact x _ st' q Q E (fun fl' loc' f W' h' tk hr S' R' => hQ fl' loc' f W' h' tk (e.1.symm.trans hr) S' R') fun c ex W' h' tk hr X' => oeC hr
theorem try_core (G : Gd w K b₀ mg mb) (X : FX A env outer sc) (hh : A.handled = none) {np hp : Pos} {b0 : Stmt} {hs : List Stmt} {mh : M (Fl × Loc)} (hn : isGlob sc "TreeFault" = true)
  (xh : ∀ ea W st s, SI prog w b₀ (A.mark (some (.ref ea))) W0 st0 h0 sc env W st s.heap loc → SimS prog w b₀ (A.mark (some (.ref ea))) (execs (b0 :: hs) env) W0 st0 h0 sc env s (mh st))
  {r : Except Nat (Fl × Loc)} {st' : St} {Q : Flow → Shared → Prop} {E : Value → Shared → Prop}
  (hQ : ∀ fl loc' f W' h' tk, r = .ok (fl, loc') → SI prog w b₀ A W0 st0 h0 sc env W' st' h' loc' → RFl w.params W' st'.n fl f → Q f ⟨h', s.gens, s.drawn, tk, s.os⟩)
  {W1 : Wd} {st1 : St} {h1 : Heap} {tk1 : Nat} {ex : Value} (S : SI prog w b₀ A W0 st0 h0 sc env W st s.heap loc) (x : ExPost prog w b₀ A W st s.heap W1 st1 h1 0 ex)
  (eq : sealM mh st1 = some (r, st')) :
  wpAny (model prog w) A (noteFrame ex env) (fun _ s₂ => wpAny (model prog w) A (setFlight ex none) (fun _ s₃ => wpAny (model prog w) A (handleBy ex env [.ExceptHandler (some (.Name "TreeFault" np)) none (b0 :: hs) hp]) Q E s₃) E s₂) E ⟨h1, s.gens, s.drawn, tk1, s.os⟩ := by
 refine ex_note x X.frames X.frame fun h2 x2 t2 => ex_flight x2 X.frames X.frame (.inl rfl) (let ⟨a, b, c, d⟩ := t2; ⟨a, b, c, _, d⟩) fun h3 x3 t3 => ?_
 obtain ⟨ea, rfl, base, t3⟩ := t3
 have S3 := S.caught x3 t3
 have hg : (cxF sc).glob "TreeFault" ∧ (("TreeFault" : Str) == ("__debug__" : Str)) = false := by
  simp only [isGlob, Bool.and_eq_true, beq_iff_eq] at hn
  exact ⟨hn.1, by decide⟩
 refine wpAny_handleBy_cons (codeAny_handlers_test ?_) (by intro q; cases q)
 refine wp_glob (s := ⟨h3, s.gens, s.drawn, tk1, s.os⟩) G.md S3.inv S3.fr hg.1 hg.2 (gval_GN G (bi_name (x := "TreeFault") (v := .ref 59) (by decide +kernel) G.X).1 (by decide)) ?_
 obtain ⟨oe, vs, T, oT, ts, he, hcls, hd, q1, q2, _⟩ := id t3
 have LT : Looks (model prog w) h3 (typeOf (.ref ea)) (.ref 59) := by
  intro A' Q' E' s' k q
  obtain ⟨hh', g', d', tk', os'⟩ := s'
  unfold typeOf
  refine wpAny_bind (wpAny_loadPart (k _ _ he) ?_)
  rw [hcls]
  exact wpAny_pure q
 refine Looks.here (s := ⟨h3, s.gens, s.drawn, tk1, s.os⟩) (exm_one (G.X.In S3.inv) LT (beq_iff_eq.mp G.X.exm)) ?_
 show codeAny _ _ _ _ _
 refine codeAny_handlers_suite ?_
 refine ex_flight (A := A.mark (some (.ref ea))) (W := W) (st := st) (h := s.heap) (W' := W1) (st' := st1) (c := 0) ⟨x3.inv, x3.step, x3.fro, x3.ex⟩ X.frames X.frame (.inl rfl) ⟨ea, rfl, base, _, t3⟩ fun h4 x4 t4 => ?_
 obtain ⟨ea4, e4, base4, t4⟩ := t4
 cases e4
 have S4 := S.caught ⟨x4.inv, x4.step, x4.fro, x4.ex⟩ t4
 exact (xh ea W1 st1 ⟨h4, s.gens, s.drawn, tk1, s.os⟩ S4).goS eq fun fl' loc' f W' h' tk hr S' R' => hQ fl' loc' f W' h' tk hr (S'.unmark hh) R'
theorem try_run (G : Gd w K b₀ mg mb) (X : FX A env outer sc) (hh : A.handled = none) {np hp : Pos} {b0 : Stmt} {hs : List Stmt} {mh : M (Fl × Loc)} {v : Expr} {m : M V × M Bool} {f : V → M (Fl × Loc)} (hn : isGlob sc "TreeFault" = true)
  (xh : ∀ ea W st s, SI prog w b₀ (A.mark (some (.ref ea))) W0 st0 h0 sc env W st s.heap loc → SimS prog w b₀ (A.mark (some (.ref ea))) (execs (b0 :: hs) env) W0 st0 h0 sc env s (mh st))
  {r : Except Nat (Fl × Loc)} {st' : St} {Q : Flow → Shared → Prop} {E : Value → Shared → Prop} {Q' : Value → Shared → Prop}
  (hQ : ∀ fl loc' f W' h' tk, r = .ok (fl, loc') → SI prog w b₀ A W0 st0 h0 sc env W' st' h' loc' → RFl w.params W' st'.n fl f → Q f ⟨h', s.gens, s.drawn, tk, s.os⟩)
  (S : SI prog w b₀ A W0 st0 h0 sc env W st s.heap loc) (x : OkE prog w b₀ A sc false env loc Loc.none v m) (eq : tryM 0 m.1 f mh st = some (r, st'))
  (hv : ∀ u ru W1 st1 h1 tk1, SI prog w b₀ A W0 st0 h0 sc env W1 st1 h1 loc → RV w.params W1 st1.n u ru → sealM (f u) st1 = some (r, st') → Q' ru ⟨h1, s.gens, s.drawn, tk1, s.os⟩) :
  wpAny (model prog w) A (eval v env) Q' (fun ex s' => wpAny (model prog w) A (noteFrame ex env) (fun _ s₂ => wpAny (model prog w) A (setFlight ex none) (fun _ s₃ => wpAny (model prog w) A (handleBy ex env [.ExceptHandler (some (.Name "TreeFault" np)) none (b0 :: hs) hp]) Q E s₃) E s₂) E s') s := by
 unfold tryM at eq
 cases q : m.1 st with
 | none => rw [q] at eq; exact noC eq
 | some p =>
  cases p with
  | mk r1 st1 =>
   rw [q] at eq
   refine (x W st s S.inv S.fr S.sk).1 r1 st1 q _ _ (fun u ru W1 h1 tk1 hr I1 P1 R1 => ?_) fun c ex W1 h1 tk1 hr X1 => ?_
   ·rw [hr] at eq
    exact hv u ru W1 st1 h1 tk1 (S.moved I1 P1) R1 eq
   ·rw [hr] at eq
    by_cases hc0 : c = 0
    ·rw [hc0] at X1
     exact try_core G X hh hn xh hQ S X1 ((if_pos hc0).symm.trans eq)
    ·exact noC ((if_neg hc0).symm.trans eq)
theorem ss_try_asg (G : Gd w K b₀ mg mb) (X : FX A env outer sc) (N : FN h0 env) (hh : A.handled = none) {i : Nat} {y : Str} {py apos np hp pos : Pos} {v : Expr} {m : M V × M Bool} {rest : List Stmt} {b0 : Stmt} {hs : List Stmt} {mbd : Loc → M (Fl × Loc)} {mh : M (Fl × Loc)} (hn : isGlob sc "TreeFault" = true)
  (hl : isLoc sc false i y = true) (hc : notComp v = true) (x : OkE prog w b₀ A sc false env loc Loc.none v m)
  (xb : ∀ loc W st s, SI prog w b₀ A W0 st0 h0 sc env W st s.heap loc → SimS prog w b₀ A (execs rest env) W0 st0 h0 sc env s (mbd loc st))
  (xh : ∀ ea W st s, SI prog w b₀ (A.mark (some (.ref ea))) W0 st0 h0 sc env W st s.heap loc → SimS prog w b₀ (A.mark (some (.ref ea))) (execs (b0 :: hs) env) W0 st0 h0 sc env s (mh st))
  (S : SI prog w b₀ A W0 st0 h0 sc env W st s.heap loc) :
  SimS prog w b₀ A (exec (.Try (.Assign [.Name y py] v apos :: rest) [.ExceptHandler (some (.Name "TreeFault" np)) none (b0 :: hs) hp] [] [] pos) env) W0 st0 h0 sc env s (tryM 0 m.1 (fun v => mbd (loc.put i v)) mh st) := by
 intro r st' eq Q E hQ hE
 refine wpAny_Try_except (wpAny_execs_cons (wpAny_Assign_Name (try_run G X hh hn xh hQ S x eq fun u ru W1 st1 h1 tk1 S1 R1 eq => store_any (s := ⟨h1, s.gens, s.drawn, tk1, s.os⟩) X N hl S1 R1 fun h2 tk2 S2 => (xb _ W1 st1 ⟨h2, s.gens, s.drawn, tk2, s.os⟩ S2).goS eq fun fl loc' f W3 h3 tk3 hr S3 R3 => ?_) (swaps_plain hc)))
 cases f with
 | next => exact wpAny_execs_nil (hQ fl loc' _ W3 h3 tk3 hr S3 R3)
 | _ => exact hQ fl loc' _ W3 h3 tk3 hr S3 R3
theorem ss_try_ex (G : Gd w K b₀ mg mb) (X : FX A env outer sc) (hh : A.handled = none) {epos np hp pos : Pos} {v : Expr} {m : M V × M Bool} {rest : List Stmt} {b0 : Stmt} {hs : List Stmt} {mbd : Loc → M (Fl × Loc)} {mh : M (Fl × Loc)} (hn : isGlob sc "TreeFault" = true)
  (hc : notComp v = true) (x : OkE prog w b₀ A sc false env loc Loc.none v m)
  (xb : ∀ loc W st s, SI prog w b₀ A W0 st0 h0 sc env W st s.heap loc → SimS prog w b₀ A (execs rest env) W0 st0 h0 sc env s (mbd loc st))
  (xh : ∀ ea W st s, SI prog w b₀ (A.mark (some (.ref ea))) W0 st0 h0 sc env W st s.heap loc → SimS prog w b₀ (A.mark (some (.ref ea))) (execs (b0 :: hs) env) W0 st0 h0 sc env s (mh st))
  (S : SI prog w b₀ A W0 st0 h0 sc env W st s.heap loc) :
  SimS prog w b₀ A (exec (.Try (.Expr v epos :: rest) [.ExceptHandler (some (.Name "TreeFault" np)) none (b0 :: hs) hp] [] [] pos) env) W0 st0 h0 sc env s (tryM 0 m.1 (fun _ => mbd loc) mh st) := by
 intro r st' eq Q E hQ hE
 refine wpAny_Try_except (wpAny_execs_cons (wpAny_Expr_any (try_run G X hh hn xh hQ S x eq fun u ru W1 st1 h1 tk1 S1 R1 eq => (xb _ W1 st1 ⟨h1, s.gens, s.drawn, tk1, s.os⟩ S1).goS eq fun fl loc' f W3 h3 tk3 hr S3 R3 => ?_) (by unfold interactive; rw [S.fr.kind]; rfl) (swaps_plain hc)))
 cases f with
 | next => exact wpAny_execs_nil (hQ fl loc' _ W3 h3 tk3 hr S3 R3)
 | _ => exact hQ fl loc' _ W3 h3 tk3 hr S3 R3
end
theorem look_zip {α : Type} : ∀ {ns : List Str} {vs : List α} {i : Nat} {x : Str}, ns.Nodup → ns[i]? = some x → (ns.zip vs).lookup x = vs[i]?
 | [], _, i, x, _, h => by simp at h
 | n :: ns, [], i, x, _, h => by simp
 | n :: ns, v :: vs, 0, x, hn, h => by simp at h; subst h; simp [List.lookup_cons]
 | n :: ns, v :: vs, i + 1, x, hn, h => by
  simp only [List.nodup_cons] at hn
  have h' : ns[i]? = some x := by simpa using h
  have : (x == n) = false := by
   rw [beq_eq_false_iff_ne]; rintro rfl; exact hn.1 (List.mem_of_getElem? h')
  rw [List.zip_cons_cons, List.lookup_cons, this, look_zip hn.2 h']; simp
theorem filt_zip {α : Type} : ∀ {ns : List Str} {vs : List α}, ns.Nodup → ns.length = vs.length → ns.filterMap (fun n => ((ns.zip vs).lookup n).map fun v => (n, v)) = ns.zip vs := by
 have key : ∀ (ns : List Str) (vs : List α) (l : List (Str × α)), ns.length = vs.length → (∀ (i : Nat) (x : Str), ns[i]? = some x → l.lookup x = vs[i]?) → ns.filterMap (fun n => (l.lookup n).map fun v => (n, v)) = ns.zip vs := by
  intro ns
  induction ns with
  | nil => intro vs l _ _; rfl
  | cons n ns ih =>
   intro vs l hl h
   cases vs with
   | nil => simp at hl
   | cons v vs =>
    have h0 := h 0 n rfl
    rw [List.filterMap_cons]
    simp only [h0, List.getElem?_cons_zero, Option.map_some]
    rw [ih vs l (by simpa using hl) fun i x hx => by simpa using h (i + 1) x (by simpa using hx)]
    rfl
 intro ns vs hn hl
 exact key ns vs _ hl fun i x hx => look_zip hn hx
theorem fst_zip {α β : Type} : ∀ {ns : List α} {vs : List β}, (ns.zip vs).map (·.1) = ns.take vs.length
 | [], _ => by simp
 | _ :: _, [] => rfl
 | n :: ns, v :: vs => by simp only [List.zip_cons_cons, List.map_cons, List.length_cons, List.take_succ_cons]; rw [fst_zip]
noncomputable def dfl (slots : List (Str × Value)) : List (Str × Value) → List (Str × Value)
 | [] => slots
 | (n, d) :: r => dfl (if (slots.lookup n).isNone then slots ++ [(n, d)] else slots) r
theorem dfl_loop : ∀ (l : List (Str × Value)) (slots : List (Str × Value)), (forIn l slots fun x r => (match x with | (name, d) => if (r.lookup name).isNone = true then pure (ForInStep.yield (r ++ [(name, d)])) else pure (ForInStep.yield r) : Sem (ForInStep (List (Str × Value))))) = pure (dfl slots l)
 | [], slots => rfl
 | (n, d) :: l, slots => by
  rw [List.forIn_cons]
  unfold dfl
  show ((if (slots.lookup n).isNone = true then pure (ForInStep.yield (slots ++ [(n, d)])) else pure (ForInStep.yield slots) : Sem _) >>= _) = _
  split
  ·exact dfl_loop l _
  ·exact dfl_loop l _
theorem look_notIn {α : Type} : ∀ {l : List (Str × α)} {n : Str}, n ∉ l.map (·.1) → l.lookup n = none
 | [], _, _ => rfl
 | (m, v) :: l, n, h => by
  simp only [List.map_cons, List.mem_cons, not_or] at h
  rw [List.lookup_cons, beq_eq_false_iff_ne.mpr h.1]
  exact look_notIn h.2
theorem dfl_all : ∀ (l : List (Str × Value)) (slots : List (Str × Value)), (slots.map (·.1) ++ l.map (·.1)).Nodup → dfl slots l = slots ++ l
 | [], slots, _ => by simp [dfl]
 | (n, d) :: l, slots, h => by
  unfold dfl
  have h1 : slots.lookup n = none := look_notIn fun hm => by
   rw [List.nodup_append] at h
   exact h.2.2 n hm n (by simp) rfl
  rw [h1]
  simp only [Option.isNone_none, if_true]
  rw [dfl_all l (slots ++ [(n, d)]) (by simpa using h)]
  simp
theorem dfl_skip : ∀ (l : List (Str × Value)) (r : List (Str × Value)) (slots : List (Str × Value)), (∀ x ∈ l, (slots.lookup x.1).isNone = false) → dfl slots (l ++ r) = dfl slots r
 | [], r, slots, _ => rfl
 | (n, d) :: l, r, slots, h => by
  rw [List.cons_append]
  show dfl (if (slots.lookup n).isNone then slots ++ [(n, d)] else slots) (l ++ r) = _
  rw [h (n, d) (.head _)]
  exact dfl_skip l r slots fun x hx => h x (.tail _ hx)
section
variable {M : Model} {A : Around} {E : Value → Shared → Prop} {s : Shared}
structure Plain (fd : FuncData) (ns : List Str) : Prop where
 pos : fd.params.posonlyargs = []
 kwo : fd.params.kwonlyargs = []
 va : fd.params.vararg = none
 kw : fd.params.kwarg = none
 nm : fd.params.args.map (·.arg) = ns
 nd : ns.Nodup
noncomputable def Dflt (h : Heap) (fd : FuncData) (ds : List Value) : Prop := (fd.defaults = .none ∧ ds = []) ∨ ∃ d o k, fd.defaults = .ref d ∧ h.get? d = some o ∧ o.data = .seq ds.toArray k
theorem ite_no {M : Model} {A : Around} {E : Value → Shared → Prop} {s : Shared} {α : Type} {c : Prop} [Decidable c] {a b : Sem α} {Q : α → Shared → Prop} (h : ¬ c) (k : wpAny M A b Q E s) : wpAny M A (if c then a else b) Q E s := by rw [if_neg h]; exact k
theorem sub_0 {a b : Nat} (h : a ≤ b) : a - b = 0 := Nat.sub_eq_zero_of_le h
theorem bk_1 {a b c i : Nat} (h2 : a ≤ b + c) (h : i < a - c) : i < b := by omega
theorem bk_2 {a b c k : Nat} (h1 : b ≤ a) (hk : b + c - a = k) : k ≤ c := by omega
theorem bk_3 {a b c i : Nat} (h2 : a ≤ b + c) (h3 : c ≤ a) (hi : i < b + c - a) : a - c + i < b := by omega
theorem bk_4 {a b c : Nat} (h1 : b ≤ a) (h2 : a ≤ b + c) (h3 : c ≤ a) : a - c + (b + c - a) = b := by omega
theorem bk_5 {a b c : Nat} (h1 : b ≤ a) (h2 : a ≤ b + c) (h3 : c ≤ a) : a - b = c - (b + c - a) := by omega
theorem bk_7 {a b c : Nat} (h1 : b ≤ a) (h2 : a ≤ b + c) (h3 : c ≤ a) : a = b + (c - (b + c - a)) := by omega
theorem bk_6 {a b c : Nat} (h1 : b ≤ a) (h2 : a ≤ b + c) (h3 : c ≤ a) : b + c - a ≤ a - (a - c) := by omega
section
variable {ns : List Str} {vals ds : List Value}
theorem bind_miss (nd : ns.Nodup) (h2 : ns.length ≤ vals.length + ds.length) : (ns.take (ns.length - ds.length)).filter (fun n => ((ns.zip vals).lookup n).isNone) = [] := by
 rw [List.filter_eq_nil_iff]
 intro x hx
 obtain ⟨i, hi⟩ := List.getElem?_of_mem hx
 rw [List.getElem?_take] at hi
 by_cases hlt : i < ns.length - ds.length
 ·rw [if_pos hlt] at hi
  rw [look_zip nd hi, List.getElem?_eq_getElem (bk_1 h2 hlt)]
  exact Bool.false_ne_true
 ·rw [if_neg hlt] at hi; exact noC hi
theorem bind_fin (nd : ns.Nodup) (h1 : vals.length ≤ ns.length) (h2 : ns.length ≤ vals.length + ds.length) (h3 : ds.length ≤ ns.length) :
  dfl (ns.zip vals) ((ns.drop (ns.length - ds.length)).zip ds) = ns.zip (vals ++ ds.drop (vals.length + ds.length - ns.length)) := by
 have k1 := bk_2 h1 (rfl : vals.length + ds.length - ns.length = _)
 have k3 := fun i => bk_3 (i := i) h2 h3
 have k4 := bk_4 h1 h2 h3
 have k5 := bk_5 h1 h2 h3
 have k6 := bk_6 h1 h2 h3
 generalize vals.length + ds.length - ns.length = k at k1 k3 k4 k5 k6 ⊢
 have z1 : ns.drop (ns.length - ds.length) = (ns.drop (ns.length - ds.length)).take k ++ ns.drop vals.length := by
  rw [← k4, ← List.drop_drop, List.take_append_drop]
 have e1 : (ns.drop (ns.length - ds.length)).zip ds = ((ns.drop (ns.length - ds.length)).take k).zip (ds.take k) ++ (ns.drop vals.length).zip (ds.drop k) := by
  have l1 : ((ns.drop (ns.length - ds.length)).take k).length = (ds.take k).length := by
   rw [List.length_take, List.length_take, List.length_drop, Nat.min_eq_left k6, Nat.min_eq_left k1]
  rw [← List.zip_append l1, ← z1, List.take_append_drop]
 have z3 : ns.zip vals = (ns.take vals.length).zip vals := by
  have l2 : (ns.take vals.length).length = vals.length := by rw [List.length_take, Nat.min_eq_left h1]
  have h := List.zip_append (r₁ := ns.drop vals.length) (r₂ := []) l2
  rw [List.take_append_drop, List.append_nil, List.zip_nil_right, List.append_nil] at h
  exact h
 rw [e1, dfl_skip]
 ·have l2 : (ns.take vals.length).length = vals.length := by rw [List.length_take, Nat.min_eq_left h1]
  rw [dfl_all, z3, ← List.zip_append l2, List.take_append_drop]
  rw [show (ns.zip vals).map (·.1) = ns.take vals.length from fst_zip, show ((ns.drop vals.length).zip (ds.drop k)).map (·.1) = ns.drop vals.length from List.map_fst_zip (by rw [List.length_drop, List.length_drop]; exact Nat.le_of_eq k5), List.take_append_drop]
  exact nd
 ·intro x hx
  obtain ⟨i, hi⟩ := List.getElem?_of_mem hx
  obtain ⟨hi1, hi2⟩ := List.getElem?_zip_eq_some.mp hi
  rw [List.getElem?_take] at hi1
  by_cases hlt : i < k
  ·rw [if_pos hlt, List.getElem?_drop] at hi1
   rw [look_zip nd hi1, List.getElem?_eq_getElem (k3 i hlt)]
   rfl
  ·rw [if_neg hlt] at hi1; exact noC hi1
end
theorem bind_c1 {a b : Nat} (h : a ≤ b) {x : Bool} : ¬ (decide (a > b) && x) = true := by rw [decide_eq_false (Nat.not_lt.mpr h)]; exact Bool.false_ne_true
theorem seq_dflt {fd : FuncData} {ds : List Value} (D : Dflt s.heap fd ds) {Q : Option (Array Value) → Shared → Prop} (h : ∀ o, (o.getD #[]).toList = ds → Q o s) : wpAny M A (seqItems? fd.defaults) Q E s :=
 D.elim (fun D => by rw [D.1]; exact wpAny_pure (h none D.2.symm)) fun D => D.elim fun d D => D.elim fun o D => D.elim fun k D => by
  rw [D.1]; exact wpAny_seqItems D.2.1 D.2.2 (h _ rfl)
theorem bind_ok {fd : FuncData} {ns : List Str} {vals ds : List Value} {Q : List (Str × Value) → Shared → Prop} (P : Plain fd ns) (D : Dflt s.heap fd ds) (h1 : vals.length ≤ ns.length) (h2 : ns.length ≤ vals.length + ds.length) (h3 : ds.length ≤ ns.length)
  (hQ : Q (ns.zip (vals ++ ds.drop (vals.length + ds.length - ns.length))) s) : wpAny M A (bindArgs fd ⟨vals, []⟩) Q E s := by
 have hp : fd.params = ⟨[], fd.params.args, none, [], fd.params.kw_defaults, none, fd.params.defaults⟩ := by
  have h1 := P.pos
  have h2 := P.kwo
  have h3 := P.va
  have h4 := P.kw
  cases hq : fd.params with
  | mk a b c d e f g => rw [hq] at h1 h2 h3 h4; rw [show a = [] from h1, show c = none from h3, show d = [] from h2, show f = none from h4]
 have nm : ([] : List Str) ++ fd.params.args.map (·.arg) = ns := P.nm
 unfold bindArgs
 refine wpAny_bind (wpAny_pure ?_)
 refine wpAny_bind (seq_dflt D fun o ho => ?_)
 rw [hp]
 generalize fd.params.args = as at nm
 generalize fd.params.kw_defaults = x1
 generalize fd.params.defaults = x2
 rw [ho]
 generalize hN : List.map (fun x : Arg => x.arg) [] ++ List.map (fun x : Arg => x.arg) as = N
 obtain rfl : N = ns := hN.symm.trans nm
 refine ite_no (bind_c1 h1) (ite_no ?_ ?_)
 ·rw [sub_0 h3, List.drop_zero, bind_miss P.nd h2]; exact Bool.false_ne_true
 rw [sub_0 h3, List.drop_zero]
 refine wpAny_bind (wpAny_of_eq (a := dfl (N.zip vals) ((N.drop (N.length - ds.length)).zip ds)) (dfl_loop _ _) ?_)
 rw [bind_fin P.nd h1 h2 h3]
 refine wpAny_bind (wpAny_pure ?_)
 refine ite_no Bool.false_ne_true ?_
 refine wpAny_pure ?_
 show Q (List.filterMap _ (N ++ [])) s
 rw [List.append_nil]
 exact (congrArg (fun l => Q l s) (filt_zip P.nd (by rw [lApp, List.length_drop]; exact bk_7 h1 h2 h3))).mpr hQ
end
section
variable {prog : Program} {w : World} {A : Around} {s : Shared} {R : Result → Shared → Prop}
theorem fn_call {a : Addr} {o : Obj} {fd : FuncData} {body : List Stmt} {vals ds : List Value} {ns : List Str} (hroom : A.depth < recursionLimit) (ho : s.heap.get? a = some o) (hdata : o.data = .func fd) (hlim : s.heap.NoLimit) (hcd : s.heap.CodeRec fd.code fd.qualname)
  (hbody : fd.body = .stmts body) (hclo : fd.closure = []) (P : Plain fd ns) (D : Dflt s.heap fd ds) (h1 : vals.length ≤ ns.length) (h2 : ns.length ≤ vals.length + ds.length) (h3 : ds.length ≤ ns.length)
  (hkind : ∀ x ∈ ns, fd.scope.names.lookup x = some .local ∨ (fd.scope.names.lookup x = some .cell ∧ ((cellsFrom (s.heap.objs.size + 1) fd.scope.names []).lookup x).isSome = true))
  (h : ∀ s₁ binds, binds = ns.zip (vals ++ ds.drop (vals.length + ds.length - ns.length)) → InCallC s (callEnvC fd s.heap.objs.size a).locals (bindL (callEnvC fd s.heap.objs.size a).kindOf binds fun _ => none) (callEnvC fd s.heap.objs.size a).cells
    (bindC (callEnvC fd s.heap.objs.size a).kindOf binds fun _ => none) s₁ →
   wpAny (model prog w) (A.deeper (callEnvC fd s.heap.objs.size a)) (execs body (callEnvC fd s.heap.objs.size a)) (fun f s' => R (.ok (.ret (match f with | .ret v => v | _ => .none))) s')
    (fun e s' => wpAny (model prog w) (A.deeper (callEnvC fd s.heap.objs.size a)) (leaving (callEnvC fd s.heap.objs.size a) e) (fun _ s'' => R (.error e) s'') (fun e' s'' => R (.error e') s'') s') s₁)
  (hco : fd.scope.isCoroutine = false) (hgen : fd.scope.isGenerator = false) (hk : fd.scope.kind = .function) :
  codeAny (model prog w) A (.call (.ref a) ⟨vals, []⟩) R s := by
 refine codeAny_call_function hroom ho hdata hco hgen hbody hcd ?_
 refine bind_ok P D h1 h2 h3 ?_
 rw [hclo]
 refine wpAny_newFunctionEnv_cells hk (fun x hx => ?_) fun env he s' x => ?_
 ·obtain ⟨i, hi⟩ := List.getElem?_of_mem hx
  obtain ⟨n, v⟩ := x
  rw [List.getElem?_zip_eq_some] at hi
  exact hkind n (List.mem_of_getElem? hi.1)
 ·subst he
  exact ⟨hlim.keeps x.toInCall.keep, codeAny_func (h s' _ rfl x)⟩
end
end Mine
end
section
open PySem PySem.W PyProof.Rows PySem.Calls PySem.SeqAt Builtin Builtin.ObjectAttr
namespace Mine
section
variable (K : Frag)
noncomputable def codeB (fd : FuncData) : Bool := match fd.code with
 | .ref c => ((K.lookup c).any fun o => match o.data with
  | .fields vs => (match (vs[1]? : Option Value) with | some (Value.str q _) => decide (q = fd.qualname) | _ => false)
  | _ => false)
 | _ => false
noncomputable def valIs (v : V) (x : Value) : Bool := match x with
 | .none => v.isNil
 | .bool b => decide (v.bool? = some b)
 | .int b _ => decide (v.int? = some b)
 | .ref a => v.tup?.any (·.isEmpty) && ((K.lookup a).bind isTup).any (·.isEmpty)
 | _ => false
noncomputable def dfltOk (fd : FuncData) (ds : List V) : Bool := match fd.defaults with
 | .none => ds.isEmpty
 | .ref d => ((K.lookup d).bind isTup).any fun vs => decide (ds.length = vs.length) && (ds.zip vs).all fun p => valIs K p.1 p.2
 | _ => false
noncomputable def fdOk (fd : FuncData) (ns : List Str) (ds : List V) (body : List Stmt → Bool) : Bool :=
 fd.params.posonlyargs.isEmpty && (fd.params.kwonlyargs.isEmpty && (fd.params.vararg.isNone && (fd.params.kwarg.isNone &&
 (decide (fd.params.args.map (·.arg) = ns) && (decide ns.Nodup && (fd.closure.isEmpty && (fd.globals == mainGlobals && (fd.builtins == builtinsNs &&
 (decide (fd.scope.kind = .function) && (decide (fd.scope.names.map (·.1)).Nodup && (!fd.scope.isCoroutine && (!fd.scope.isGenerator && (codeB K fd && (dfltOk K fd ds && (decide (ds.length ≤ ns.length) &&
 (ns.all (fun x => fd.scope.names.lookup x == some .local || fd.scope.names.lookup x == some .cell) &&
 (match fd.body with | .stmts b => body b | _ => false)))))))))))))))))
end
theorem fnAt_of {K : Frag} {a : Addr} {fd : FuncData} (h : fnAt K a = some fd) : ∃ o, K.lookup a = some o ∧ o.cls = .type "function" ∧ o.data = .func fd := by
 obtain ⟨o, ho, h⟩ := bndS h
 by_cases q : (o.cls == Value.type "function") = true
 ·rw [if_pos q] at h
  refine ⟨o, ho, beq_iff_eq.mp q, ?_⟩
  revert h
  cases o.data <;> intro h <;> (first | exact nfC h | (obtain rfl := inj1 h) | cases h)
  rfl
 ·rw [if_neg q] at h; exact noC h
theorem cons_of {α : Type} {l : List α} {n : Nat} (h : l.length = n + 1) : ∃ a r, l = a :: r ∧ r.length = n := by
 cases l with
 | nil => cases h
 | cons a r => exact ⟨a, r, rfl, Nat.succ.inj h⟩
theorem six_of {α : Type} {l : List α} {C : Prop} (h : l.length = 6) (k : ∀ a b c d e f, l = [a, b, c, d, e, f] → C) : C := by
 obtain ⟨a, l1, rfl, h1⟩ := cons_of h
 obtain ⟨b, l2, rfl, h2⟩ := cons_of h1
 obtain ⟨c, l3, rfl, h3⟩ := cons_of h2
 obtain ⟨d, l4, rfl, h4⟩ := cons_of h3
 obtain ⟨e, l5, rfl, h5⟩ := cons_of h4
 obtain ⟨f, l6, rfl, h6⟩ := cons_of h5
 exact k a b c d e f (by rw [List.eq_nil_of_length_eq_zero h6])
theorem data_cls {d : Data} {F : ClassData → Bool} {C : Prop} (h : (match d with | .cls c => F c | _ => false) = true) (k : ∀ c, d = .cls c → F c = true → C) : C := by
 cases d with
 | cls c => exact k c rfl h
 | _ => exact nfC h
theorem ex_eq {o : Obj} {c : ClassData} {k0 k1 k2 k3 k5 : Option Value} (h1 : o.cls = .type "type") (h2 : o.data = .cls c) (h3 : o.slots = #[k0, k1, k2, k3, some (.builtin "Exception.__new__"), k5]) (h4 : c.mro = .ref 59 :: tail59) (h5 : c.hasDel = false) (h6 : c.hasDict = true) :
  o = excClassObj c.name c.qualname 59 c.ns c.bases tail59 true c.slotNames c.subclasses c.abstract c.collection o.dict k0 k1 k2 k3 k5 "Exception.__new__" := by
 cases o with
 | mk a b d e =>
  cases c with
  | mk x1 x2 x3 x4 x5 x6 x7 x8 x9 x10 x11 =>
   rw [show a = _ from h1, show d = _ from h2, show e = _ from h3, show x3 = _ from h4, show x11 = _ from h5, show x6 = _ from h6]
theorem cls59 {K : Frag} {b₀ : Heap} {C : Prop} (X : KX K b₀) (k : ∀ nm q N bs sn sub ab col dd k0 k1 k2 k3 k5, K.lookup 59 = some (excClassObj nm q 59 N bs tail59 true sn sub ab col dd k0 k1 k2 k3 k5 "Exception.__new__") → C) : C :=
 (any_some X.exc).elim fun o h => (and2 h.2).2 |> fun g => data_cls (and2 g).1 fun c e h2 => six_of (l := o.slots.toList) (beq_iff_eq.mp (and2 (and2 g).2).1) fun k0 k1 k2 k3 k4 k5 el => by
  have h4 := beq_iff_eq.mp (and2 (and2 g).2).2
  have es : o.slots = #[k0, k1, k2, k3, k4, k5] := congrArg List.toArray el
  rw [es] at h4
  rw [show k4 = _ from Option.some.inj h4] at es
  exact k _ _ _ _ _ _ _ _ _ _ _ _ _ _ (h.1.trans (congrArg some (ex_eq (beq_iff_eq.mp (and2 h.2).1) e es (odt (and2 h2).1) ((Bool.not_eq_true' _).mp (and2 (and2 h2).2).1) (and2 (and2 h2).2).2)))
theorem cd59 {K : Frag} {b₀ : Heap} (X : KX K b₀) : ∃ cd, clsIn K 59 = some cd ∧ cd.mro = .ref 59 :: tail59 ∧ cd.hasDict = true := by
 refine cls59 X fun nm q N bs sn sub ab col dd k0 k1 k2 k3 k5 e => ?_
 exact ⟨_, by unfold clsIn; rw [e], rfl, rfl⟩
theorem exS_ok (self : Value) : refuseLoop self "__setattr__" [.type "Exception", .type "BaseException", .type "object"] = pure () := by kernel_rfl
section
variable {prog : Program} {w : World} {A : Around} {R : Result → Shared → Prop} {E : Value → Shared → Prop} {h : Heap} {g : Array GenState} {d : Drawn} {t : Nat} {os : OsState}
variable {nm q : Str} {N : Addr} {bs : List Value} {hdct : Bool} {sn : List Str} {sub : List Value} {ab : Bool} {col : Option Bool} {dd : Option Addr} {k0 k1 k2 k3 k5 : Option Value}
theorem new59 {rest : List Value} (hC : h.get? 59 = some (excClassObj nm q 59 N bs tail59 hdct sn sub ab col dd k0 k1 k2 k3 k5 "Exception.__new__"))
  (hq : R (.ok (.ret (.ref (h.objs.size + 1)))) ⟨(h.push { cls := .type "tuple", data := .seq rest.toArray }).push { cls := .ref 59, data := .fields #[.ref h.objs.size, .none, .none, .none, .bool false, .none] }, g, d, t, os⟩) (hrest : rest.length ≤ sizeLine) :
  codeAny (model prog w) A (.builtin "Exception.__new__" ⟨.ref 59 :: rest, []⟩) R ⟨h, g, d, t, os⟩ := by
 have F := PySem.F.excBase_Exception
 have hends := F.ends
 have hcB : (Value.ref 59 :: tail59).contains (.type "Exception") = true := by decide
 have hcA : (Value.ref 59 :: tail59).contains (.type "AttributeError") = false := by decide
 have hcN : (Value.ref 59 :: tail59).contains (.type "NameError") = false := by decide
 refine codeAny_builtinAt F.entry ?_
 unfold Builtin.«BaseException.__new__»
 refine PySem.wpAt_bind ?_
 show PySem.wpAt _ _ _ (stack >>= _) _ _ _
 refine PySem.wpAt_bind (PySem.wpAt_stack fun p below => PySem.wpAt_of_wpAny ?_)
 wp_walk
 refine PySem.wpAt_of_wpAny ?_
 rw [F.owner]
 repeat (first | with_reducible refine wpAny_madeHere_exc F.canon hC ?_ | with_reducible refine wpAny_loadPart_at hC ?_ | (with_reducible refine wpAny_isSubtype_exc hC ?_; first | rw [hcB] | rw [hcA] | rw [hcN]) | wp_step)
 show R _ _
 rw [Heap.size_push]
 exact hq
theorem check_new59 {M : Model} {rest : List Value} {Q : Unit → Shared → Prop} (hC : h.get? 59 = some (excClassObj nm q 59 N bs tail59 hdct sn sub ab col dd k0 k1 k2 k3 k5 "Exception.__new__")) (hq : Q () ⟨h, g, d, t, os⟩) :
  wpAny M A (checkBuiltinCall "Exception.__new__" ⟨.ref 59 :: rest, []⟩) Q E ⟨h, g, d, t, os⟩ := by
 exact wpAny_check_new_subU (bmB := tail59) PySem.F.excBase_Exception (by decide) .base hC hq
theorem check_init59 {M : Model} {e : Addr} {oe : Obj} {rest : List Value} {Q : Unit → Shared → Prop} (hC : h.get? 59 = some (excClassObj nm q 59 N bs tail59 hdct sn sub ab col dd k0 k1 k2 k3 k5 "Exception.__new__"))
  (he : h.get? e = some oe) (hcls : oe.cls = .ref 59) (hq : Q () ⟨h, g, d, t, os⟩) : wpAny M A (checkBuiltinCall "Exception.__init__" ⟨.ref e :: rest, []⟩) Q E ⟨h, g, d, t, os⟩ := by
 have F := PySem.F.excBase_Exception
 have hcB : (Value.ref 59 :: tail59).contains (.type "Exception") = true := by decide
 have hshort := F.noStar
 simp only [checkBuiltinCall, F.initKind, F.initSplit, F.initRow]
 repeat (first | (with_reducible refine wpAny_loadPart_at he ?_; rw [hcls]) | with_reducible refine wpAny_loadPart_at hC ?_ | (with_reducible refine wpAny_isSubtype_exc hC ?_; rw [hcB]) | wp_step)
 refine wpAny_onRaise ?_
 rw [show ∀ (a b : String) (n : Nat), Bind.check ⟨.positional, "*", "Exception", .self, [⟨"args", .varPos, false⟩]⟩ a b n (List.map (fun x => x.fst) ({ pos := Value.ref e :: rest } : Args).kw) = pure () from
  fun a b n => check_star_args _ _ _ _ _ _]
 exact wpAny_pure hq
end
section
variable {prog : Program} {w : World} {K : Frag} {b₀ : Heap} {A : Around} {R : Result → Shared → Prop} {E : Value → Shared → Prop} {h : Heap} {g : Array GenState} {d : Drawn} {t : Nat} {os : OsState}
theorem type_call59 {rest : List Value} {Q : Fin → Shared → Prop} (KX0 : KX K b₀) (X : K.In h) (h36 : ∃ o, K.lookup 36 = some o ∧ o.cls = .type "function")
  (hq : ∀ h' e, Heap.MadeExcOf h h' e (.ref 59) rest →
   wpAny (model prog w) A (call (.ref 36) (.ref e :: rest)) (fun r s' => r = .none ∧ Q (.done (.ret (.ref e))) s') E ⟨h', g, d, t, os⟩) (hrest : rest.length ≤ sizeLine) :
  wpAny (model prog w) A (Builtin.«type.__call__» ⟨.ref 59 :: rest, []⟩) Q E ⟨h, g, d, t, os⟩ := by
 refine cls59 KX0 fun nm q N bs sn sub ab col dd k0 k1 k2 k3 k5 e59 => ?_
 have hC := X _ _ e59
 have F := PySem.F.excBase_Exception
 repeat (first | with_reducible refine wpAny_loadPart_at hC ?_ | with_reducible refine wpAny_madeBy_exc hC ?_ | wp_step)
 refine codeAny_call_builtin_code (Code.quiet_builtin _ F.quiet) (check_new59 hC ?_)
 refine new59 hC ?_ hrest
 show wpAny _ _ _ _ _ _
 have kp : ∀ b o, h.get? b = some o → ((h.push { cls := .type "tuple", data := .seq rest.toArray }).push { cls := .ref 59, data := .fields #[.ref h.objs.size, .none, .none, .none, .bool false, .none] }).get? b = some o := fun b o e => Heap.get?_push_of_some _ (Heap.get?_push_of_some _ e)
 have hC₁ := kp _ _ hC
 have X₁ := X.keeps kp
 have hget : ((h.push { cls := .type "tuple", data := .seq rest.toArray }).push
   { cls := .ref 59, data := .fields #[.ref h.objs.size, .none, .none, .none, .bool false, .none] }).get? (h.objs.size + 1) = some
   { cls := .ref 59, data := .fields #[.ref h.objs.size, .none, .none, .none, .bool false, .none] } := by heap_get
 have hcC : (Value.ref 59 :: tail59).contains (.ref 59) = true := by decide
 unfold isInstance
 repeat (first | with_reducible refine wpAny_loadPart_at hget ?_ | (with_reducible refine wpAny_isSubtype_exc hC₁ ?_; rw [hcC]) | wp_step)
 show wpAny _ _ (typeLookup (.ref 59) _) _ _ _
 refine Looks.at (looks_findIn X₁ (beq_iff_eq.mp KX0.exi)) ?_
 obtain ⟨oI, hfI, hfc⟩ := h36
 have hfI₁ := X₁ _ _ hfI
 refine wpAny_holding (wpAny_bind ?_)
 unfold bindSpecial
 refine wpAny_bind (wpAny_typeOf (T := "function") ⟨_, hfI₁, hfc⟩ ?_)
 rw [if_pos (by decide)]
 refine wpAny_pure (wpAny_bind (wpAny_mono (hq _ (h.objs.size + 1) ⟨kp, Heap.get?_none_of_le (Nat.le_succ _), h.objs.size, hget, Heap.get?_none_of_le (Nat.le_refl _), ?_⟩) (fun r s' hr => ?_) fun _ _ x => x))
 ·exact Heap.get?_push_of_some _ (Heap.get?_push_at rfl rfl)
 ·obtain ⟨rfl, hQ⟩ := hr
  wp_walk
  exact hQ
theorem call59 {rest : List Value} {Q : Value → Shared → Prop} (KX0 : KX K b₀) (X : K.In h) (h36 : ∃ o, K.lookup 36 = some o ∧ o.cls = .type "function")
  (hq : ∀ h' e, Heap.MadeExcOf h h' e (.ref 59) rest →
   wpAny (model prog w) (A.under (.builtin "type.__call__" ⟨.ref 59 :: rest, []⟩)) (call (.ref 36) (.ref e :: rest)) (fun r s' => r = .none ∧ Q (.ref e) s') E ⟨h', g, d, t, os⟩) (hrest : rest.length ≤ sizeLine) :
  wpAny (model prog w) A (call (.ref 59) rest) Q E ⟨h, g, d, t, os⟩ := by
 refine cls59 KX0 fun nm q N bs sn sub ab col dd k0 k1 k2 k3 k5 e59 => ?_
 have hC := X _ _ e59
 have f1 := tc_lookup
 have f2 := tc_bind (.ref 59)
 have hT : (⟨h, g, d, t, os⟩ : Shared).TypeIs (.ref 59) "type" := ⟨_, hC, rfl⟩
 refine wpAny_call (codeAny_of_tree ?_)
 show wpAny _ _ (callAny (.ref 59) _) _ _ _
 repeat (any_goals (first | assumption | with_reducible refine wpAny_loadPart_at hC ?_ | wp_step))
 refine ⟨rfl, ?_⟩
 refine codeAny_call_builtin_at (Code.quiet_builtin _ (by decide +kernel)) entry_typeCall (wpAny_check_type_call_sub hC (type_call59 KX0 X h36 (fun h' e hm => ?_) hrest))
 exact hq h' e hm
end
section
variable {prog : Program} {w : World} {K : Frag} {b₀ : Heap} {A : Around} {E : Value → Shared → Prop} {s : Shared}
theorem init_call {e t0 : Addr} {rest : List Value} {Q : Value → Shared → Prop} (KX0 : KX K b₀) (X : K.In s.heap) (he : s.heap.get? e = some { cls := .ref 59, data := .fields #[.ref t0, .none, .none, .none, .bool false, .none] }) (hrest : rest.length ≤ sizeLine)
  (hQ : ∀ h' t, Heap.ExtBut e s.heap h' → h'.get? e = some { cls := .ref 59, data := .fields #[.ref t, .none, .none, .none, .bool false, .none] } → Q .none { s with heap := h' }) :
  wpAny (model prog w) A (call (.builtin "Exception.__init__") (.ref e :: rest)) Q E s := by
 refine cls59 KX0 fun nm q N bs sn sub ab col dd k0 k1 k2 k3 k5 e59 => ?_
 have hC := X _ _ e59
 have F := PySem.F.excBase_Exception
 obtain ⟨h, g, d, tk, os⟩ := s
 refine wpAny_call (codeAny_call_builtin F.init.plain F.initEntry (check_init59 hC he rfl ?_))
 wp_walk
 refine hQ _ h.objs.size (fun b o hb hbe => ?_) ?_
 ·rw [Heap.get?_update_other _ _ (Ne.symm hb)]
  exact Heap.get?_push_of_some _ hbe
 ·rw [Heap.get?_update_self _ (Heap.get?_push_of_some _ he) rfl]
  rfl
theorem exc_set {e : Addr} {oe : Obj} {od : Option Obj} {name : Str} {v : Value} {Q : Unit → Shared → Prop} (KX0 : KX K b₀) (X : K.In s.heap) (I : InstAt s.heap e oe 59 od) (ht : takerIn K 59 name = some none)
  (h : ∀ b, wpAny (model prog w) A.in1 (storeInOwnDict (.ref e) (.ref 59) (.str name s.toks) name v b) (fun fin s' => match fin with | .done (.ret _) => Q () s' | _ => False) (fun _ _ => False) { s with toks := s.toks + 1 }) :
  wpAny (model prog w) A (setAttr (.ref e) name v) Q E s := by
 refine set_plain X I (beq_iff_eq.mp KX0.exd) ?_
 have X' : K.In ({ s with toks := s.toks + 1 } : Shared).heap := X
 have I' : InstAt ({ s with toks := s.toks + 1 } : Shared).heap e oe 59 od := I
 have SF := PySem.F.store_object
 have sub : Looks (model prog w) ({ s with toks := s.toks + 1 } : Shared).heap (isInstance (.ref e) (.type "object")) true := I'.type.andThen (looks_subIn X' (beq_iff_eq.mp KX0.exo))
 refine codeAny_call_builtin SF.slot.plain SF.entry (@check_slot (model prog w) _ _ _ "object.__setattr__" "object" "__setattr__" (.ref e) [.str name s.toks, v] [] _ SF.kind SF.split sub (SF.args (.ref e) (.str name s.toks) v) ?_)
 obtain ⟨attr, ha, hr⟩ := bndS ht
 obtain ⟨cd, hc, hcm, _⟩ := cd59 KX0
 have hm : Looks (model prog w) ({ s with toks := s.toks + 1 } : Shared).heap (mroOf (.ref 59)) (.ref 59 :: tail59) := by rw [← hcm]; exact (looks_clsIn X' hc).andThen .now
 have L3 : Looks (model prog w) ({ s with toks := s.toks + 1 } : Shared).heap (storeTaker? attr) none := by
  cases attr with
  | none => exact .now
  | some a =>
   obtain ⟨b, hb, hbb⟩ := mapS hr
   refine (looks_takesIn X' hb).andThen ?_
   cases b
   ·exact .now
   ·(exact nsC hbb)
 rw [osa_eq, refuse_eq]
 refine wpAny_bind (wpAny_bind (I'.type.here (wpAny_bind (hm.here ?_))))
 rw [show (Value.ref 59 :: tail59) = [.ref 59, .ref 46, .type "Exception", .type "BaseException", .type "object"] from rfl, refuseLoop_ref, refuseLoop_ref, exS_ok]
 refine wpAny_pure (wpAny_bind (I'.type.here (wpAny_bind ((looks_findIn X' ha).here (wpAny_bind (L3.here ?_))))))
 dsimp only
 refine wpAny_mono (h _) (fun fin s' z => ?_) fun _ _ z => z.elim
 rcases fin with (_ | _ | _ | _) | _ <;> first | exact z | exact z.elim
theorem dict_put {d : Addr} {es : List DictEntry} {k : Nat} {name : Str} {tk : Tok} {v : Value} {Q : Fin → Shared → Prop} (hd : s.heap.get? d = some (dictOf es k)) (hn : es.any (·.key.isStr name) = false) (hr : es.any (·.refKey) = false) (hz : es.length ≤ 100)
  (hQ : ∀ h', h'.get? d = some (dictOf (es ++ [⟨PyData.keyHash w.params name, .str name s.toks, v⟩]) (putN name es k)) → Heap.SameBut d s.heap h' → Q (.done (.ret .none)) { s with heap := h', toks := s.toks + 1 }) :
  wpAny (model prog w) A (storeInDict d (.str name tk) name v) Q E s := by
 have eput : Obj.putName name (PyData.keyHash w.params name) (.str name s.toks) v (dictOf es k) = dictOf (es ++ [⟨PyData.keyHash w.params name, .str name s.toks, v⟩]) (putN name es k) := by
  rw [putName_dict, putL_new _ _ _ _ _ hn]
 have hd2 : (s.heap.update d (Obj.putName name (PyData.keyHash w.params name) (.str name s.toks) v)).get? d = some (dictOf (es ++ [⟨PyData.keyHash w.params name, .str name s.toks, v⟩]) (putN name es k)) := by
  rw [← eput]; exact Heap.get?_update_self _ hd (by rw [eput]; rfl)
 unfold storeInDict
 refine wpAny_bind (wpAny_pure (wpAny_bind ?_))
 unfold nsSet
 refine wpAny_bind (wpAny_bind (wpAny_askSetting (wpAny_pure (wpAny_bind (wpAny_mkText (wpAny_bind (wpAny_loadPart hd ?_)))))))
 have cnd : (!es.toArray.any (·.key.isStr name) && es.toArray.any (·.refKey)) = false := by
  rw [← Array.any_toList, ← Array.any_toList]
  simp [hr]
 show wpAny _ _ _ _ _ _
 dsimp only [dictOf]
 rw [aRefKeyMayBeTheName_at, cnd]
 refine wpAny_updatePart hd ?_
 refine wpAny_bind (wpAny_lookBehind hd2 (pastItsLine_dict (by rw [List.size_toArray, sizeLine_eq]; simp; omega)) ?_)
 refine wpAny_pure ?_
 exact hQ _ hd2 ⟨by cases s.heap; simp [Heap.update], fun b hb => Heap.get?_update_ne _ _ _ _ hb⟩
theorem exc_set_new {e : Addr} {oe : Obj} {vs : Array Value} {name : Str} {v : Value} {Q : Unit → Shared → Prop} (KX0 : KX K b₀) (X : K.In s.heap) (he : s.heap.get? e = some oe) (hc : oe.cls = .ref 59) (hd : oe.data = .fields vs) (hdn : oe.dict = none) (ht : takerIn K 59 name = some none)
  (hQ : ∀ h' d es k tk, Heap.ExtBut e s.heap h' → h'.get? e = some { oe with dict := some d } → h'.get? d = some (dictOf es k) → s.heap.get? d = none → (∀ n : Str, n ≠ name → es.any (·.key.isStr n) = false) → es.any (·.refKey) = false → es.length ≤ 100 → Q () { s with heap := h', toks := tk }) :
  wpAny (model prog w) A (setAttr (.ref e) name v) Q E s := by
 refine exc_set KX0 X (oe := oe) (od := none) ⟨he, hc, by unfold notCls; rw [hd], by rw [hdn]; trivial⟩ ht fun b => ?_
 obtain ⟨cd, hcd, _, hd'⟩ := cd59 KX0
 obtain ⟨oc, odi, oda, osl⟩ := oe
 simp only at hc hd hdn
 subst hc hd hdn
 have X' : K.In ({ s with toks := s.toks + 1 } : Shared).heap := X
 unfold storeInOwnDict
 refine wpAny_bind (wpAny_pure (wpAny_bind ?_))
 show wpAny _ _ (instanceDict e true) _ _ _
 unfold instanceDict
 refine wpAny_bind (wpAny_loadPart (s := { s with toks := s.toks + 1 }) he ?_)
 dsimp only
 refine wpAny_bind ((looks_clsIn X' hcd).here ?_)
 rw [hd']
 rw [if_neg (by decide), if_neg (show ¬ ((!true || !typeHasDict (Value.ref 59)) = true) from by decide)]
 have hn : s.heap.get? s.heap.objs.size = none := Heap.get?_none_of_le (Nat.le_refl _)
 have hne : e ≠ s.heap.objs.size := Nat.ne_of_lt (Heap.lt_size he)
 have he1 : (s.heap.push { cls := .type "dict", data := .dict #[] }).get? e = some ⟨.ref 59, none, .fields vs, osl⟩ := Heap.get?_push_of_some _ he
 refine wpAny_bind (wpAny_alloc (wpAny_bind (wpAny_update he1 ?_)))
 show wpAny _ _ (Pure.pure (some s.heap.objs.size)) _ _ _
 refine wpAny_pure ?_
 dsimp only
 have he2 : ((s.heap.push { cls := .type "dict", data := .dict #[] }).update e fun o => { o with dict := some s.heap.objs.size }).get? e = some ⟨.ref 59, some s.heap.objs.size, .fields vs, osl⟩ := Heap.get?_update_self _ he1 rfl
 have hd2 : ((s.heap.push { cls := .type "dict", data := .dict #[] }).update e fun o => { o with dict := some s.heap.objs.size }).get? s.heap.objs.size = some (dictOf [] 0) := by
  rw [Heap.get?_update_other _ _ hne]; exact Heap.get?_push_size _ rfl
 refine dict_put (s := ⟨_, s.gens, s.drawn, s.toks + 1, s.os⟩) hd2 rfl rfl (by simp) fun h' hd' hs' => ?_
 refine hQ h' s.heap.objs.size _ _ _ (fun b o hb hbe => ?_) ((hs'.2 _ hne).trans he2) hd' hn (fun n hnn => ?_) ?_ (by simp)
 ·have hb2 : b ≠ s.heap.objs.size := fun q => by rw [q, hn] at hbe; exact noC hbe
  refine (hs'.2 b hb2).trans ?_
  rw [Heap.get?_update_other _ _ (Ne.symm hb)]
  exact Heap.get?_push_of_some _ hbe
 ·simp only [List.nil_append, List.any_cons, List.any_nil, Bool.or_false]
  show (Value.str name _).isStr n = false
  rw [Bool.eq_false_iff]
  intro q
  exact hnn (Eq.symm (by simpa [Value.isStr] using q))
 ·rfl
theorem exc_set_old {e d : Addr} {oe : Obj} {vs : Array Value} {es : List DictEntry} {k : Nat} {name : Str} {v : Value} {Q : Unit → Shared → Prop} (KX0 : KX K b₀) (X : K.In s.heap) (he : s.heap.get? e = some oe) (hc : oe.cls = .ref 59) (hd : oe.data = .fields vs) (hdn : oe.dict = some d)
  (hdd : s.heap.get? d = some (dictOf es k)) (hn : es.any (·.key.isStr name) = false) (hr : es.any (·.refKey) = false) (hz : es.length ≤ 100) (ht : takerIn K 59 name = some none)
  (hQ : ∀ h' tk, Heap.ExtBut d s.heap h' → Q () { s with heap := h', toks := tk }) :
  wpAny (model prog w) A (setAttr (.ref e) name v) Q E s := by
 refine exc_set KX0 X (oe := oe) (od := some (dictOf es k)) ⟨he, hc, by unfold notCls; rw [hd], by rw [hdn]; exact hdd⟩ ht fun b => ?_
 obtain ⟨cd, hcd, _, hd'⟩ := cd59 KX0
 obtain ⟨oc, odi, oda, osl⟩ := oe
 simp only at hc hd hdn
 subst hc hd hdn
 have X' : K.In ({ s with toks := s.toks + 1 } : Shared).heap := X
 unfold storeInOwnDict
 refine wpAny_bind (wpAny_pure (wpAny_bind ?_))
 show wpAny _ _ (instanceDict e true) _ _ _
 unfold instanceDict
 refine wpAny_bind (wpAny_loadPart (s := { s with toks := s.toks + 1 }) he ?_)
 dsimp only
 refine wpAny_bind ((looks_clsIn X' hcd).here ?_)
 rw [hd', if_neg (by decide)]
 refine wpAny_pure ?_
 dsimp only
 exact dict_put (s := ⟨s.heap, s.gens, s.drawn, s.toks + 1, s.os⟩) hdd hn hr hz fun h' hd' hs' => hQ h' _ hs'.extBut
end
end Mine
end
section
open PySem PySem.W PyProof.Rows PySem.Calls PySem.SeqAt
namespace Mine
structure FdP (K : Frag) (fd : FuncData) (ns : List Str) (ds : List V) (body : List Stmt → Bool) : Prop where
 plain : Plain fd ns
 clo : fd.closure = []
 glob : fd.globals = mainGlobals
 bi : fd.builtins = builtinsNs
 kind : fd.scope.kind = .function
 nod : (fd.scope.names.map (·.1)).Nodup
 co : fd.scope.isCoroutine = false
 gen : fd.scope.isGenerator = false
 code : codeB K fd = true
 dfl : dfltOk K fd ds = true
 len : ds.length ≤ ns.length
 kinds : ∀ x ∈ ns, fd.scope.names.lookup x = some .local ∨ fd.scope.names.lookup x = some .cell
 bod : ∃ b, fd.body = .stmts b ∧ body b = true
theorem fdOk_of {K : Frag} {fd : FuncData} {ns : List Str} {ds : List V} {body : List Stmt → Bool} (h : fdOk K fd ns ds body = true) : FdP K fd ns ds body := by
 obtain ⟨h1, r⟩ := and2 h
 obtain ⟨h2, r⟩ := and2 r
 obtain ⟨h3, r⟩ := and2 r
 obtain ⟨h4, r⟩ := and2 r
 obtain ⟨h5, r⟩ := and2 r
 obtain ⟨h6, r⟩ := and2 r
 obtain ⟨h7, r⟩ := and2 r
 obtain ⟨h8, r⟩ := and2 r
 obtain ⟨h9, r⟩ := and2 r
 obtain ⟨h10, r⟩ := and2 r
 obtain ⟨hnd, r⟩ := and2 r
 obtain ⟨h11, r⟩ := and2 r
 obtain ⟨h12, r⟩ := and2 r
 obtain ⟨h13, r⟩ := and2 r
 obtain ⟨h14, r⟩ := and2 r
 obtain ⟨h15, r⟩ := and2 r
 obtain ⟨h16, h17⟩ := and2 r
 refine ⟨⟨List.isEmpty_iff.mp h1, List.isEmpty_iff.mp h2, Option.isNone_iff_eq_none.mp h3, Option.isNone_iff_eq_none.mp h4, odt h5, odt h6⟩, List.isEmpty_iff.mp h7, beq_iff_eq.mp h8, beq_iff_eq.mp h9, odt h10, odt hnd, (Bool.not_eq_true' _).mp h11, (Bool.not_eq_true' _).mp h12, h13, h14, odt h15, fun x hx => ?_, ?_⟩
 ·rcases Bool.or_eq_true_iff.mp (List.all_eq_true.mp h16 x hx) with q | q
  ·exact .inl (beq_iff_eq.mp q)
  ·exact .inr (beq_iff_eq.mp q)
 ·cases hb : fd.body with
  | stmts b => rw [hb] at h17; exact ⟨b, rfl, h17⟩
  | _ => rw [hb] at h17; exact nfC h17
theorem codeRec_of {K : Frag} {fd : FuncData} {h : Heap} (X : K.In h) (e : codeB K fd = true) : h.CodeRec fd.code fd.qualname := by
 unfold codeB at e
 cases hc : fd.code with
 | ref c =>
  rw [hc] at e
  obtain ⟨o, ho, e⟩ := any_some e
  cases hd : o.data with
  | fields vs =>
   rw [hd] at e
   dsimp only at e
   cases hv : (vs[1]? : Option Value) with
   | none => rw [hv] at e; exact nfC e
   | some v =>
    rw [hv] at e
    cases v with
    | str q t => cases odt e; exact ⟨c, o, vs, t, rfl, X _ _ ho, hd, hv⟩
    | _ => exact nfC e
  | _ => rw [hd] at e; exact nfC e
 | _ => rw [hc] at e; exact nfC e
theorem valIs_of {K : Frag} {b₀ : Heap} {P : Params} {W : Wd} {n : Nat} {v : V} {x : Value} (X : K.In b₀) (hb : ∀ a o, b₀.get? a = some o → W.B a = some o) (h : valIs K v x = true) : RV P W n v x := by
 cases x with
 | none => cases V.ofNil h; exact (show Value.none = Value.none from rfl)
 | bool b => cases V.ofBool (odt h); exact (show Value.bool b = Value.bool b from rfl)
 | int b t => cases V.ofInt (odt h); exact RV.int _ _
 | ref a =>
  obtain ⟨h1, h2⟩ := and2 h
  obtain ⟨us, hu, h1⟩ := any_some h1
  obtain ⟨vs, hv, h2⟩ := any_some h2
  obtain rfl := (V.ofTup hu : _ = _)
  obtain rfl := (List.isEmpty_iff.mp h1 : _ = _)
  obtain rfl := (List.isEmpty_iff.mp h2 : _ = _)
  obtain ⟨o, ho, ht⟩ := bndS hv
  obtain ⟨k, rfl⟩ := isTup_of ht
  exact RV.tup (hb _ _ (X _ _ ho)) (show RVs P W n [] [] from rfl)
 | _ => exact nfC h
theorem dflt_of {K : Frag} {b₀ h : Heap} {P : Params} {W : Wd} {n : Nat} {fd : FuncData} {ds : List V} (X : K.In b₀) (hb : ∀ a o, b₀.get? a = some o → W.B a = some o) (hW : ∀ a o, W.B a = some o → h.get? a = some o) (e : dfltOk K fd ds = true) :
  ∃ dvs, Dflt h fd dvs ∧ RVs P W n ds dvs := by
 unfold dfltOk at e
 cases hd : fd.defaults with
 | none => rw [hd] at e; cases List.isEmpty_iff.mp e; exact ⟨[], .inl ⟨hd, rfl⟩, rfl⟩
 | ref d =>
  rw [hd] at e
  obtain ⟨vs, hv, e3⟩ := any_some e
  obtain ⟨o, ho, ht⟩ := bndS hv
  obtain ⟨k, rfl⟩ := isTup_of ht
  obtain ⟨e1, e2⟩ := and2 e3
  refine ⟨vs, .inr ⟨d, _, k, hd, hW _ _ (hb _ _ (X _ _ ho)), rfl⟩, ?_⟩
  replace e1 := odt e1
  clear hv ht ho e3 e hd hW
  induction ds generalizing vs with
  | nil => cases vs with
   | nil => rfl
   | cons _ _ => cases e1
  | cons v ds ih => cases vs with
   | nil => cases e1
   | cons x vs =>
    rw [List.zip_cons_cons] at e2
    obtain ⟨g1, g2⟩ := and2 e2
    exact ⟨x, vs, rfl, valIs_of X hb g1, ih vs g2 (Nat.succ.inj e1)⟩
 | _ => rw [hd] at e; exact nfC e
theorem cells_look {x : Str} : ∀ (names : List (Str × NameKind)) (k : Nat) (acc : List (Str × Addr)), (names.lookup x = some .cell ∨ (acc.lookup x).isSome = true) → ((cellsFrom k names acc).lookup x).isSome = true
 | [], k, acc, h => h.elim (fun q => by (exact noC q)) id
 | (y, kd) :: r, k, acc, h => by
  unfold cellsFrom
  rw [List.lookup_cons] at h
  by_cases hk : (kd == NameKind.cell) = true
  ·rw [if_pos hk]
   refine cells_look r _ _ ?_
   rw [List.lookup_cons]
   cases q : x == y with
   | true => exact .inr rfl
   | false => rw [q] at h; exact h
  ·rw [if_neg hk]
   refine cells_look r _ _ ?_
   cases q : x == y with
   | true =>
    rw [q] at h
    rcases h with h | h
    ·(obtain rfl := inj1 h); exact absurd rfl hk
    ·exact .inr h
   | false => rw [q] at h; exact h
theorem look_mem {α : Type} {x : Str} {c : α} : ∀ {l : List (Str × α)}, (l.map (·.1)).Nodup → (x, c) ∈ l → l.lookup x = some c
 | (y, d) :: r, hn, hm => by
  rw [List.lookup_cons]
  rw [List.map_cons, List.nodup_cons] at hn
  cases hm with
  | head => rw [beq_self_eq_true]
  | tail _ hm =>
   rw [show (x == y) = false from beq_eq_false_iff_ne.mpr fun e => hn.1 (e ▸ List.mem_map.mpr ⟨(x, c), hm, rfl⟩)]
   exact look_mem hn.2 hm
theorem cells_nod : ∀ (names : List (Str × NameKind)) (k : Nat) (acc : List (Str × Addr)), (names.map (·.1) ++ acc.map (·.1)).Nodup → ((cellsFrom k names acc).map (·.1)).Nodup
 | [], k, acc, h => h
 | (y, kd) :: r, k, acc, h => by
  unfold cellsFrom
  rw [List.map_cons, List.cons_append] at h
  split
  ·exact cells_nod r _ _ ((List.perm_middle (a := y) (l₁ := r.map (·.1)) (l₂ := acc.map (·.1))).nodup_iff.mpr h)
  ·exact cells_nod r _ _ (List.nodup_cons.mp h).2
noncomputable def ups : List (Str × Value) → (Str → Option Value) → Str → Option Value
 | [], m => m
 | (n, v) :: r, m => ups r fun y => if y = n then some v else m y
theorem bindL_eq {kindOf : Str → Option NameKind} {y : Str} (hy : kindOf y = some .local) : ∀ (l : List (Str × Value)) (m m' : Str → Option Value), m y = m' y → bindL kindOf l m y = ups l m' y
 | [], m, m', h => h
 | (n, v) :: r, m, m', h => by
  unfold bindL ups
  refine bindL_eq hy r _ _ ?_
  by_cases q : y = n
  ·rw [if_pos (q ▸ hy)]; show (if y = n then _ else _) = if y = n then _ else _; rw [if_pos q, if_pos q]
  ·rw [if_neg q]; split
   ·show (if y = n then _ else _) = _; rw [if_neg q]; exact h
   ·exact h
theorem bindC_eq {kindOf : Str → Option NameKind} {y : Str} (hy : kindOf y ≠ some .local) : ∀ (l : List (Str × Value)) (m m' : Str → Option Value), m y = m' y → bindC kindOf l m y = ups l m' y
 | [], m, m', h => h
 | (n, v) :: r, m, m', h => by
  unfold bindC ups
  refine bindC_eq hy r _ _ ?_
  by_cases q : y = n
  ·rw [if_neg (q ▸ hy)]; show (if y = n then _ else _) = if y = n then _ else _; rw [if_pos q, if_pos q]
  ·rw [if_neg q]; split
   ·exact h
   ·show (if y = n then _ else _) = _; rw [if_neg q]; exact h
theorem ups_ok {P : Params} {W : Wd} {n : Nat} {i : Nat} (hi : i < vCount) : ∀ (ps : List Nat) (vs : List V) (rvs : List Value) (l loc : Loc) (m : Str → Option Value), (∀ p ∈ ps, p < vCount) → RVs P W n vs rvs → bindP ps vs l = some loc →
  (∀ v, l i = some v → ∃ rv, m (vname i) = some rv ∧ RV P W n v rv) → ∀ v, loc i = some v → ∃ rv, ups ((ps.map vname).zip rvs) m (vname i) = some rv ∧ RV P W n v rv
 | [], vs, rvs, l, loc, m, _, R, h, hm => by
  cases vs with
  | nil => (obtain rfl := inj1 h); exact hm
  | cons _ _ => exact noC h
 | p :: ps, vs, rvs, l, loc, m, hp, R, h, hm => by
  cases vs with
  | nil => exact noC h
  | cons v vs =>
   obtain ⟨r, rs, rfl, R1, R2⟩ := R
   refine ups_ok hi ps vs rs (l.put p v) loc _ (fun x hx => hp x (List.mem_cons_of_mem _ hx)) R2 h fun u hu => ?_
   unfold Loc.put at hu
   by_cases q : i = p
   ·rw [if_pos q] at hu
    obtain rfl := inj1 hu
    exact ⟨r, if_pos (by rw [q]), R1⟩
   ·rw [if_neg q] at hu
    obtain ⟨rv, e1, e2⟩ := hm u hu
    exact ⟨rv, (if_neg fun e => q (vname_inj i p hi (hp p (List.mem_cons_self ..)) e)).trans e1, e2⟩
theorem bindP_len : ∀ {ps : List Nat} {vs : List V} {l loc : Loc}, bindP ps vs l = some loc → vs.length = ps.length
 | [], [], _, _, _ => rfl
 | [], _ :: _, _, _, h => by exact noC h
 | _ :: _, [], _, _, h => by exact noC h
 | _ :: ps, _ :: vs, l, loc, h => congrArg (· + 1) (bindP_len (ps := ps) h)
theorem RVs.drop {P : Params} {W : Wd} {n : Nat} : ∀ (k : Nat) {vs : List V} {rvs : List Value}, RVs P W n vs rvs → RVs P W n (vs.drop k) (rvs.drop k)
 | 0, _, _, h => h
 | k + 1, [], rvs, h => by cases (show rvs = [] from h); exact rfl
 | k + 1, _ :: vs, rvs, h => by obtain ⟨r, rs, rfl, _, h2⟩ := h; exact RVs.drop k h2
section
variable {prog : Program} {w : World} {b₀ : Heap} {K : Frag} {A : Around} {W : Wd} {st : St} {s s₁ : Shared}
theorem fr_enter {fd : FuncData} {a : Addr} {loc : Loc} {cx : Cx} {binds : List (Str × Value)} (I : Inv prog w b₀ W st s.heap) (hg : fd.globals = mainGlobals) (hbi : fd.builtins = builtinsNs) (hkd : fd.scope.kind = .function) (hn : (fd.scope.names.map (·.1)).Nodup)
  (x : InCallC s (callEnvC fd s.heap.objs.size a).locals (bindL (callEnvC fd s.heap.objs.size a).kindOf binds fun _ => none) (callEnvC fd s.heap.objs.size a).cells (bindC (callEnvC fd s.heap.objs.size a).kindOf binds fun _ => none) s₁)
  (hl : ∀ y i, cx.loc y i → fd.scope.names.lookup y = some .local ∧ ∀ v, loc i = some v → ∃ rv, ups binds (fun _ => none) y = some rv ∧ RV w.params W st.n v rv)
  (hc : ∀ y i, cx.cell y i → fd.scope.names.lookup y = some .cell ∧ ∀ v, loc i = some v → ∃ rv, ups binds (fun _ => none) y = some rv ∧ RV w.params W st.n v rv)
  (hgl : ∀ y, cx.glob y → fd.scope.names.lookup y = some .globalImplicit) (hup : ∀ y i, ¬ cx.up y i) :
  FR w W st.n (callEnvC fd s.heap.objs.size a) cx loc Loc.none s₁.heap := by
 have fresh : ∀ {c : Addr}, s.heap.objs.size ≤ c → ¬ Owned W st.n c ∧ W.B c = none := fun hc => not_owned_fresh I (Heap.get?_none_of_le hc)
 refine ⟨hkd, hg, hbi, ⟨_, x.toInCall.ns, fun y i hy v hv => ?_⟩, fun y i hy => (hl y i hy).1, hgl, fun y i hy => ?_, fun y i hy => absurd hy (hup y i), fresh (Nat.le_refl _), fun y c hm => ?_, x.apart⟩
 ·obtain ⟨h1, h2⟩ := hl y i hy
  obtain ⟨rv, e, R⟩ := h2 v hv
  exact ⟨rv, (bindL_eq (show (callEnvC fd s.heap.objs.size a).kindOf y = some .local from h1) binds _ _ rfl).trans e, R⟩
 ·obtain ⟨h1, h2⟩ := hc y i hy
  obtain ⟨c, hcc⟩ := Option.isSome_iff_exists.mp (cells_look fd.scope.names (s.heap.objs.size + 1) [] (.inl h1))
  refine ⟨h1, c, _, hcc, x.cell y c hcc, fun v hv => ?_⟩
  obtain ⟨rv, e, R⟩ := h2 v hv
  exact ⟨rv, (bindC_eq (show (callEnvC fd s.heap.objs.size a).kindOf y ≠ some .local from fun q => by rw [show (callEnvC fd s.heap.objs.size a).kindOf y = some .cell from h1] at q; cases q) binds _ _ rfl).trans e, R⟩
 ·have hlt := x.above y c hm
  refine ⟨(fresh (Nat.le_of_lt hlt)).1, (fresh (Nat.le_of_lt hlt)).2, Nat.ne_of_gt hlt, ?_⟩
  exact ⟨_, x.cell y c (look_mem (cells_nod _ _ _ (by rw [List.map_nil, List.append_nil]; exact hn)) hm)⟩
end
noncomputable def callSW (v : Expr) : Bool := (xCall v).any fun c => c.2.2.1.isEmpty && ((xAttr c.1).any (fun a => chkNm (fun x => decide (x = "Exception")) a.1 && (decide (a.2.1 = Str.ofString "__init__") && (a.2.2.endLine == c.2.2.2.line))) && (two c.2.1).any fun q => chkNm (fun x => decide (x = "self")) q.1 && chkNm (fun x => decide (x = "what")) q.2)
noncomputable def setB (x y : Str) (s : Stmt) : Bool := (sAsg s).any fun p => (one p.1).any fun t => (xAttr t).any fun a => chkNm (fun x => decide (x = "self")) a.1 && (a.2.1 == x && chkNm (fun z => decide (z = y)) p.2)
noncomputable def body36 (b : List Stmt) : Bool := (three b).any fun p => (sExpr p.1).any callSW && (setB "what" "what" p.2.1 && setB "at" "at" p.2.2)
noncomputable def fd36 (K : Frag) (fd : FuncData) : Bool := fdOk K fd ["self", "what", "at"] [.int (-1)] body36 &&
 ((["self", "what", "at"] : List Str).all (fun x => fd.scope.names.lookup x == some .local) && (fd.scope.names.lookup (("Exception" : String) : Str) == some .globalImplicit))
noncomputable def makeOk (K : Frag) (c : Nat) : Bool := makesIn K (clsAddr c) && ((findIn K (.ref (clsAddr c)) "__init__" == some (some (.ref (initAddr c)))) && isFn K (.ref (initAddr c)))
structure KY (K : Frag) : Prop where
 mks : ((List.range 6).all fun c => makeOk K c) = true
 k59 : keepIn K (.ref 59) = true
 f36 : (fnAt K 36).any (fd36 K) = true
 xg : (findIn K (.type "type") "__getattribute__" == some (some (.builtin "type.__getattribute__"))) = true
 xs : (subIn K (.type "type") (.type "type") == some true) = true
noncomputable def kOk2 (K : Frag) : Bool := ((List.range 6).all fun c => makeOk K c) && (keepIn K (.ref 59) && ((fnAt K 36).any (fd36 K) && ((findIn K (.type "type") "__getattribute__" == some (some (.builtin "type.__getattribute__"))) && (subIn K (.type "type") (.type "type") == some true))))
theorem KY.of {K : Frag} (h : kOk2 K = true) : KY K := by
 obtain ⟨h0, r⟩ := and2 h
 obtain ⟨h1, r⟩ := and2 r
 obtain ⟨h2, r⟩ := and2 r
 obtain ⟨h3, h4⟩ := and2 r
 exact ⟨h0, h1, h2, h3, h4⟩
theorem three_of {α : Type} {l : List α} {p : α × α × α} (h : three l = some p) : l = [p.1, p.2.1, p.2.2] := by
 match l with
 | [_, _, _] => (obtain rfl := inj1 h); rfl
 | [] => exact noC h
 | [_] => exact noC h
 | [_, _] => exact noC h
 | _ :: _ :: _ :: _ :: _ => exact noC h
theorem asgC {F : List Expr × Expr → Expr → Bool} {x : Stmt} {C : Stmt → Prop} (h : ((sAsg x).any fun p => (one p.1).any (F p)) = true) (k : ∀ t a q, F a t = true → C (.Assign [t] a.2 q)) : C x :=
 viewC sAsg_of h fun a q g => oneC (C := fun l => C (.Assign l a.2 q)) g fun t g => k t a q g
theorem nmS {x : Str} {C : Expr → Prop} {e : Expr} (h : chkNm (fun z => decide (z = x)) e = true) (k : ∀ p, C (.Name x p)) : C e := nmC h fun y q g => by rw [odt g]; exact k q
section
variable {prog : Program} {w : World} {b₀ : Heap} {K : Frag} {mg mb : Str → Option Value} {A : Around} {E : Value → Shared → Prop} {s : Shared} {env : Env} {m : Str → Option Value}
theorem name_here {x : Str} {p : Pos} {v : Value} {Q : Value → Shared → Prop} (hk : env.scope.kind = .function) (hl : env.kindOf x = some .local) (ns : s.heap.Ns env.locals m) (hv : m x = some v) (hd : (x == ("__debug__" : Str)) = false) (h : Q v s) : wpAny (model prog w) A (eval (.Name x p) env) Q E s :=
 wpAny_Name (wpAny_loadName_local hk hl ns hv h) hd
theorem Ns.ext {h h' : Heap} {L e : Addr} {m : Str → Option Value} (ns : h.Ns L m) (k : Heap.ExtBut e h h') (hne : L ≠ e) : h'.Ns L m := let ⟨o, es, ep, ho, r⟩ := ns; ⟨o, es, ep, k _ _ hne ho, r⟩
theorem setB_of {x y : Str} {s : Stmt} {C : Stmt → Prop} (h : setB x y s = true) (k : ∀ p q r t, C (.Assign [.Attribute (.Name "self" p) x q] (.Name y r) t)) : C s :=
 asgC h fun t a q g => anyC g fun d hd g => andC g fun g1 g => andC g fun g2 g3 => (xAttr_of hd).elim fun ap hh => by
  rw [hh.2, beq_iff_eq.mp g2]
  exact nmS (C := fun u => C (.Assign [.Attribute u x ap] a.2 q)) g1 fun p => nmS (C := fun v => C (.Assign [.Attribute (.Name "self" p) x ap] v q)) g3 fun r => k p ap r q
theorem callSW_of {v : Expr} {C : Expr → Prop} (h : callSW v = true) (k : ∀ p ap q r cp, (Pos.endLine ap == Pos.line cp) = true → C (.Call (.Attribute (.Name "Exception" p) "__init__" ap) [.Name "self" q, .Name "what" r] [] cp)) : C v :=
 viewE xCall_of h fun c g => andC g fun g6 g => andC g fun g7 g8 => nilC (C := fun l => C (.Call c.1 c.2.1 l c.2.2.2)) g6 (anyC g7 fun a ha g => andC g fun g9 g => andC g fun g10 g11 => (xAttr_of ha).elim fun ap hh => twoC (C := fun l => C (.Call c.1 l [] c.2.2.2)) g8 fun d g => andC g fun g12 g13 => by
  rw [hh.2, odt g10]
  exact nmS (C := fun u => C (.Call (.Attribute u "__init__" ap) [d.1, d.2] [] c.2.2.2)) g9 fun p => nmS (C := fun u => C (.Call (.Attribute (.Name "Exception" p) "__init__" ap) [u, d.2] [] c.2.2.2)) g12 fun q => nmS (C := fun u => C (.Call (.Attribute (.Name "Exception" p) "__init__" ap) [.Name "self" q, u] [] c.2.2.2)) g13 fun r => k p ap q r c.2.2.2 (hh.1 ▸ g11))
theorem body36_of {b : List Stmt} {C : List Stmt → Prop} (h : body36 b = true) (k : ∀ p ap q r cp ep p1 q1 r1 t1 p2 q2 r2 t2, (Pos.endLine ap == Pos.line cp) = true →
  C [.Expr (.Call (.Attribute (.Name "Exception" p) "__init__" ap) [.Name "self" q, .Name "what" r] [] cp) ep, .Assign [.Attribute (.Name "self" p1) "what" q1] (.Name "what" r1) t1, .Assign [.Attribute (.Name "self" p2) "at" q2] (.Name "at" r2) t2]) : C b :=
 viewE (C := C) three_of h fun a g => andC g fun g1 g => andC g fun g2 g3 => viewC (C := fun s => C [s, a.2.1, a.2.2]) sExpr_of g1 fun v ep g4 => callSW_of (C := fun v => C [.Expr v ep, a.2.1, a.2.2]) g4 fun p ap q r cp g11 =>
  setB_of (C := fun s => C [.Expr (.Call (.Attribute (.Name "Exception" p) "__init__" ap) [.Name "self" q, .Name "what" r] [] cp) ep, s, a.2.2]) g2 fun p1 q1 r1 t1 => setB_of (C := fun s => C [.Expr (.Call (.Attribute (.Name "Exception" p) "__init__" ap) [.Name "self" q, .Name "what" r] [] cp) ep, .Assign [.Attribute (.Name "self" p1) "what" q1] (.Name "what" r1) t1, s]) g3 fun p2 q2 r2 t2 => k p ap q r cp ep p1 q1 r1 t1 p2 q2 r2 t2 g11
theorem load_init (KX0 : KX K b₀) (Y : KY K) (X : K.In s.heap) {Q : Value × List Value → Shared → Prop} (h : Q (.builtin "Exception.__init__", []) { s with toks := s.toks + 1 }) {pl : Sem Bool} : wpAny (model prog w) A (getMethod (.type "Exception") "__init__" pl) Q E s := by
 have hfc : findCls K (.type "Exception") (.type "type") "__init__" = some (.val (.builtin "Exception.__init__")) := by
  have z := KX0.exf
  cases q : findCls K (.type "Exception") (.type "type") "__init__" with
  | none => rw [q] at z; exact nfC z
  | some r => cases r with
   | val b => rw [q] at z; cases beq_iff_eq.mp z; rfl
   | get => rw [q] at z; exact nfC z
 unfold getMethod
 refine wpAny_bind (Looks.here (t := specialOf (.type "Exception") "__getattribute__") ((Looks.of_pure rfl).andThen (looks_findIn X (beq_iff_eq.mp Y.xg))) ?_)
 dsimp only
 rw [if_pos canon_tga]
 exact wpAny_bind (cls_open (mc := .type "type") (name := "__init__") (expr := false) (hook := none) X (Looks.of_pure rfl) (Looks.of_pure rfl) (beq_iff_eq.mp Y.xg) (looks_hook X rfl) (beq_iff_eq.mp Y.xs) hfc (wpAny_pure (handed_on rfl (wpAny_pure h))))
theorem body36_run {e t0 : Addr} {wv av : Value} {b : List Stmt} {Q : Flow → Shared → Prop} (hb : body36 b = true) (KX0 : KX K b₀) (Y : KY K) (MD : Md w b₀ mg mb) (hgn : GN mg mb "Exception" (.type "Exception")) (hk : env.scope.kind = .function)
  (hl : ∀ x : Str, x ∈ (["self", "what", "at"] : List Str) → env.kindOf x = some .local) (hg : env.kindOf "Exception" = some .globalImplicit) (eg : env.globals = mainGlobals) (eb : env.builtins = builtinsNs)
  (hB : ∀ a o, b₀.get? a = some o → s.heap.get? a = some o) (hBe : b₀.get? e = none) (ns : s.heap.Ns env.locals m) (m1 : m "self" = some (.ref e)) (m2 : m "what" = some wv) (m3 : m "at" = some av)
  (he : s.heap.get? e = some { cls := .ref 59, data := .fields #[.ref t0, .none, .none, .none, .bool false, .none] }) (hne : env.locals ≠ e)
  (hQ : ∀ h' tk t d, Heap.ExtBut e s.heap h' → h'.get? e = some { cls := .ref 59, dict := some d, data := .fields #[.ref t, .none, .none, .none, .bool false, .none] } → Q .next { s with heap := h', toks := tk }) :
  wpAny (model prog w) A (execs b env) Q E s := by
 refine body36_of (C := fun b => wpAny (model prog w) A (execs b env) Q E s) hb fun p ap q r cp ep p1 q1 r1 t1 p2 q2 r2 t2 g11 => ?_
 have L1 := hl "self" (.head _)
 have L2 := hl "what" (.tail _ (.head _))
 have L3 := hl "at" (.tail _ (.tail _ (.head _)))
 have inK : ∀ {h' : Heap}, Heap.ExtBut e s.heap h' → K.In h' := fun k a o ea => k a o (fun q => by have := KX0.inn a o ea; rw [q, hBe] at this; (exact noC this)) (hB a o (KX0.inn a o ea))
 have X := inK fun _ _ _ e => e
 refine wpAny_execs_cons (wpAny_Expr_any ?_ (by unfold interactive; rw [hk]; rfl) (swaps_plain rfl))
 rw [arm_eval_Call, base_plain rfl]
 obtain ⟨h, g, d, tk, os⟩ := s
 have e1 : h.Ns env.globals mg := by rw [eg]; exact MD.g.keeps hB
 have e2 : h.Ns env.builtins mb := by rw [eb]; exact MD.b.keeps hB
 have xe : ∀ {p : Pos} {Q : Value → Shared → Prop}, Q (.type "Exception") ⟨h, g, d, tk, os⟩ → wpAny (model prog w) A (eval (.Name "Exception" p) env) Q E ⟨h, g, d, tk, os⟩ := fun {p Q} q => by
  rcases hgn with z | ⟨z1, z2⟩
  ·exact Calls.Name_function_global hk hg (Calls.loadGlobal_global e1 z q) (by decide)
  ·exact Calls.Name_function_global hk hg (Calls.loadGlobal_builtin e1 z1 e2 z2 q) (by decide)
 refine wpAny_bind (xe (wpAny_bind (wpAny_standAt ?_)))
 clear xe e1 e2 hg hgn eg eb MD
 rw [meth_form g11 rfl rfl]
 refine wpAny_bind (wpAny_holding (load_init KX0 Y X ?_))
 refine callWith_of (P := fun h => K.In h) rfl (fun h X => KeepOk.builtin (K := K) _ h X) (wp_evalArgs rfl (wpAny_items_cons (name_here hk L1 ns m1 (by decide) (wpAny_items_cons (name_here hk L2 ns m2 (by decide) (wpAny_items_nil ⟨X, ?_⟩))))))
 refine init_call (s := ⟨h, g, d, tk + 1, os⟩) KX0 X he (line_ten (by show 1 ≤ 10000000; omega)) fun h1 t1 k1 he1 => ?_
 have ns1 := Ns.ext ns k1 hne
 refine wpAny_execs_cons (plainObj_wpAny_Assign_Attribute (name_here (s := ⟨h1, g, d, tk + 1, os⟩) hk L2 ns1 m2 (by decide) (name_here (s := ⟨h1, g, d, tk + 1, os⟩) hk L1 ns1 m1 (by decide) ?_)) swaps_attr)
 refine exc_set_new (s := ⟨h1, g, d, tk + 1, os⟩) KX0 (inK k1) he1 rfl rfl rfl (beq_iff_eq.mp KX0.ext) fun h2 dd es k tk2 k2 he2 hd2 hn2 hes hrf hlen => ?_
 have k12 : Heap.ExtBut e h h2 := fun b o hb eb => k2 b o hb (k1 b o hb eb)
 have ns2 := Ns.ext ns1 k2 hne
 refine wpAny_execs_cons (plainObj_wpAny_Assign_Attribute (name_here (s := ⟨h2, g, d, tk2, os⟩) hk L3 ns2 m3 (by decide) (name_here (s := ⟨h2, g, d, tk2, os⟩) hk L1 ns2 m1 (by decide) ?_)) swaps_attr)
 refine exc_set_old (s := ⟨h2, g, d, tk2, os⟩) KX0 (inK k12) he2 rfl rfl rfl hd2 (hes "at" (show ("at" : Str) ≠ ("what" : Str) by decide)) hrf hlen (beq_iff_eq.mp KX0.exa) fun h3 tk3 k3 => wpAny_execs_nil (hQ h3 tk3 t1 dd (fun b o hb eb => k3 b o (fun q => ?_) (k12 b o hb eb)) (k3 _ _ (fun q => ?_) he2))
 ·subst q; rw [k1 _ _ hb eb] at hn2; exact nsC hn2
 ·subst q; rw [he2] at hd2; cases hd2
end
section
variable {prog : Program} {w : World} {b₀ : Heap} {K : Frag} {mg mb : Str → Option Value} {A : Around} {E : Value → Shared → Prop}
variable {env : Env} {outer : List Env} {sc : Sc} {W0 W : Wd} {st0 st : St} {h0 : Heap} {loc : Loc} {s : Shared}
theorem raise_made {x : Sem Value} {Q : Flow → Shared → Prop} (KX0 : KX K b₀) (hh : A.handled = none)
  (h : wpAny (model prog w) A x (fun v s₁ => ∃ e t d, v = .ref e ∧ K.In s₁.heap ∧ s₁.heap.get? e = some { cls := .ref 59, dict := some d, data := .fields #[.ref t, .none, .none, .none, .bool false, .none] } ∧ E (.ref e) s₁) E s) :
  wpAny (model prog w) A (raiseStmt env (some x) none) Q E s := by
 have hcB : (Value.ref 59 :: tail59).contains (.type "BaseException") = true := by decide
 unfold raiseStmt
 refine wpAny_bind (wpAny_mono h (fun v s₁ h₁ => ?_) fun _ _ x => x)
 refine h₁.elim fun e h₁ => h₁.elim fun t h₁ => h₁.elim fun dd h₁ => ?_
 rw [h₁.1]
 have X := h₁.2.1
 have he := h₁.2.2.1
 refine cls59 KX0 fun nm q N bs sn sub ab col dd0 k0 k1 k2 k3 k5 e59 => ?_
 have hC := X _ _ e59
 obtain ⟨hp, g, d, tk, os⟩ := s₁
 repeat (first | with_reducible refine wpAny_loadPart_at he ?_ | with_reducible refine wpAny_loadPart_at hC ?_ | (with_reducible refine wpAny_isSubtype_exc hC ?_; rw [hcB]) | wp_step)
 exact wpAny_raiseNew_none hh h₁.2.2.2
theorem funFrames_of {h base : Heap} : ∀ {l : List Env}, (∀ env ∈ l, env.scope.kind ≠ .module ∧ ∃ L, env.frame = some L ∧ base.get? L = none ∧ ∃ o, h.get? L = some o ∧ isDictD o) → h.FunFrames base l
 | [], _ => trivial
 | env :: l, H => by
  obtain ⟨k, L, hf, hb, o, ho, es, ep, hd⟩ := H env (List.mem_cons_self ..)
  exact ⟨k, ⟨L, o, hf, hb, ho, fun vs q => by rw [hd] at q; cases q⟩, funFrames_of fun env' he => H env' (List.mem_cons_of_mem _ he)⟩
theorem made_post {e t d : Addr} {h' : Heap} (I : Inv prog w b₀ W st s.heap) (Kk : SK A W st.n s.heap) (hk : ∀ a o, s.heap.get? a = some o → h'.get? a = some o) (hn : s.heap.get? e = none)
  (he : h'.get? e = some { cls := .ref 59, dict := some d, data := .fields #[.ref t, .none, .none, .none, .bool false, .none] }) : ExPost prog w b₀ A W st s.heap W st h' 0 (.ref e) := by
 have hb : ∀ a, (erase s.heap (fAddrs A)).get? a = if a ∈ fAddrs A then none else s.heap.get? a := get_erase _ _
 have alive : ∀ a, ((∃ o₀, s.heap.get? a = some o₀) ∨ Owned W st.n a ∨ ∃ o₀, W.B a = some o₀) → ∃ o₀, s.heap.get? a = some o₀ := fun a q => by
  rcases q with q | ⟨i, hi, hx⟩ | ⟨o, q⟩
  ·exact q
  ·obtain ⟨l1, l2⟩ := I.live i hi
   rcases hx with rfl | rfl
   ·exact l1
   ·exact l2
  ·exact ⟨o, I.sub _ _ q⟩
 refine ⟨I.kept hk, .of_kept hk, fun L hL => ?_, e, erase s.heap (fAddrs A), rfl, fun a o ha => ?_, ?_, funFrames_of fun env' hm => ?_, .made _ _ he rfl rfl rfl rfl, fun a o ha hq hf => ?_⟩
 ·obtain ⟨env', hm, hf⟩ := List.mem_filterMap.mp hL
  obtain ⟨_, L', hf', ⟨o, ho, hd⟩, q1, q2⟩ := Kk.fr env' hm
  rw [hf] at hf'; obtain rfl := inj1 hf'
  exact ⟨q1, q2, o, hk _ _ ho, hd⟩
 ·rw [hb] at ha
  split at ha
  ·(exact noC ha)
  ·exact hk _ _ ha
 ·rw [hb, hn]; split <;> rfl
 ·obtain ⟨k, L, hf, ⟨o, ho, hd⟩, q1, q2⟩ := Kk.fr env' hm
  exact ⟨k, L, hf, (hb L).trans (if_pos (List.mem_filterMap.mpr ⟨env', hm, hf⟩)), o, hk _ _ ho, hd⟩
 ·obtain ⟨o₀, q⟩ := alive a hq
  rw [hb, if_neg hf, q]
  rw [hk _ _ q] at ha
  exact ha
theorem ups_here {n : Str} {v : Value} {r : List (Str × Value)} {m : Str → Option Value} (h : n ∉ r.map (·.1)) : ups ((n, v) :: r) m n = some v := by
 have key : ∀ (r : List (Str × Value)) (m : Str → Option Value), (∀ p ∈ r, p.1 ≠ n) → ups r m n = m n := by
  intro r
  induction r with
  | nil => intro m _; rfl
  | cons p r ih =>
   intro m h
   show ups r _ n = _
   rw [ih _ fun p hp => h p (List.mem_cons_of_mem _ hp)]
   exact if_neg (Ne.symm (h p (List.mem_cons_self ..)))
 show ups r _ n = _
 rw [key r _ fun p hp e => h (List.mem_map.mpr ⟨p, hp, e⟩)]
 exact if_pos rfl
theorem len1 {α : Type} {l : List α} {C : Prop} (h : l.length = 1) (k : ∀ a, l = [a] → C) : C := (cons_of h).elim fun a h => h.elim fun r h => k a (by rw [h.1, List.eq_nil_of_length_eq_zero h.2])
theorem ss_raise (G : Gd w K b₀ mg mb) (Y : KY K) (hh : A.handled = none) (hdp : A.depth + 20 < recursionLimit) {np cpos pos ap : Pos} {kk : Nat} {b : Str} (hn : isGlob sc "TreeFault" = true) (S : SI prog w b₀ A W0 st0 h0 sc env W st s.heap loc) :
  SimS prog w b₀ A (exec (.Raise (some (.Call (.Name "TreeFault" np) [.Constant (.str b) kk ap] [] cpos)) none pos) env) W0 st0 h0 sc env s (M.throw 0 st) := by
 intro r st' eq Q E hQ hE
 obtain ⟨rfl, rfl⟩ := inj2 eq
 have gx := isGlob_of (inC := false) hn
 have tf := bi_name (x := "TreeFault") (v := .ref 59) (by decide +kernel) G.X
 have hgn := gval_GN G (bi_name (x := "Exception") (v := .type "Exception") (by decide +kernel) G.X).1 (by decide)
 refine anyC Y.f36 fun fd hfd g => andC g fun g1 g2 => andC g2 fun g2 g3 => (fnAt_of hfd).elim fun o36 f36 => ?_
 have P := fdOk_of g1
 refine P.bod.elim fun body hbd => ?_
 have hl : ∀ x : Str, x ∈ (["self", "what", "at"] : List Str) → fd.scope.names.lookup x = some .local := fun x hx => beq_iff_eq.mp (List.all_eq_true.mp g2 x hx)
 rw [arm_exec_Raise]
 refine wpAny_bind (wpAny_standAt (raise_made G.X hh (wpAny_bind (wpAny_mono (wpAny_Call_ofName (wp_glob G.md S.inv S.fr gx.1 gx.2 (gval_GN G tf.1 tf.2) ?_)) (fun v s₃ h₃ => wpAny_bind (wpAny_standAt (wpAny_pure h₃))) fun _ _ x => x))))
 refine callWith_of (P := fun h => K.In h) rfl (fun h X => KeepOk.ref (K := K) Y.k59 _ h X) (wp_evalArgs rfl (wpAny_items_cons (Calls.Constant_str (wpAny_items_nil ⟨G.X.In S.inv, ?_⟩))))
 obtain ⟨h, gn, dr, tk, os⟩ := s
 have hB : ∀ a o, b₀.get? a = some o → h.get? a = some o := S.inv.base_in
 refine call59 (h := h) (t := tk + 1) G.X (G.X.In S.inv) ⟨o36, f36.1, f36.2.1⟩ (fun h1 e hm => ?_) (line_ten (by show 1 ≤ 10000000; omega))
 refine hm.there.elim fun t0 he1 => ?_
 have he1 := he1.1
 have hne : ∀ {a o}, h.get? a = some o → a ≠ e := fun ha q => by rw [q, hm.new] at ha; exact noC ha
 have I1 := S.inv.kept hm.keeps
 refine (dflt_of (P := w.params) (n := st.n) G.X.inn I1.base I1.sub P.dfl).elim fun dvs DR => ?_
 have hlen := DR.2.length
 refine wpAny_call (fn_call (vals := [.ref e, .str b tk]) (ds := dvs) (body := body) (ns := ["self", "what", "at"]) (s := ⟨h1, gn, dr, tk + 1, os⟩) ?_ (hm.keeps _ _ (hB _ _ (G.X.inn _ _ f36.1))) f36.2.2 (G.md.nolimit.keeps I1.base_in) (codeRec_of (G.X.In I1) P.code) hbd.1 P.clo P.plain DR.1 (show 2 ≤ 3 by decide) (by rw [hlen]; exact (show 3 ≤ 2 + 1 by decide)) (by rw [hlen]; exact (show 1 ≤ 3 by decide)) (fun x hx => .inl (hl x hx)) (fun s₁ binds hb x => ?_) P.co P.gen P.kind)
 ·exact (show A.depth + 1 < recursionLimit by omega)
 refine len1 hlen fun av ed => ?_
 have hbi : binds = [(Str.ofString "self", Value.ref e), (Str.ofString "what", Value.str b tk), (Str.ofString "at", av)] := by rw [hb, ed]; rfl
 have look : ∀ {y : Str} {v : Value}, fd.scope.names.lookup y = some .local → ups binds (fun _ => none) y = some v → bindL (callEnvC fd h1.objs.size 36).kindOf binds (fun _ => none) y = some v := fun h1 h2 => (bindL_eq h1 _ _ _ rfl).trans h2
 have L1 := hl "self" (.head _)
 have L2 := hl "what" (.tail _ (.head _))
 have L3 := hl "at" (.tail _ (.tail _ (.head _)))
 refine body36_run (env := callEnvC fd h1.objs.size 36) (e := e) (t0 := t0) (m := bindL (callEnvC fd h1.objs.size 36).kindOf binds fun _ => none) hbd.2 G.X Y G.md hgn P.kind hl (beq_iff_eq.mp g3) P.glob P.bi (fun a o ha => x.toInCall.keep _ _ (hm.keeps _ _ (hB _ _ ha))) ?_ x.toInCall.ns
  (look L1 (by rw [hbi]; exact ups_here (show ("self" : Str) ∉ (["what", "at"] : List Str) by decide))) (look L2 (by rw [hbi]; exact ups_here (show ("what" : Str) ∉ (["at"] : List Str) by decide))) (look L3 (by rw [hbi]; exact ups_here (show ("at" : Str) ∉ ([] : List Str) by decide))) (x.toInCall.keep _ _ he1) ?_ fun h' tk' t d k' he' => ?_
 ·cases q : b₀.get? e with
  | none => rfl
  | some o => exact absurd rfl (hne (hB _ _ q))
 ·intro q
  have := Heap.lt_size he1
  rw [← q] at this
  exact absurd this (Nat.lt_irrefl _)
 obtain ⟨h₁, tk₁, rfl⟩ := x.toInCall.same
 have kk : ∀ a o, h.get? a = some o → h'.get? a = some o := fun a o ha => k' a o (hne ha) (x.toInCall.keep _ _ (hm.keeps _ _ ha))
 have hX : K.In h' := fun a o ea => kk _ _ (hB _ _ (G.X.inn _ _ ea))
 exact ⟨rfl, e, t, d, rfl, hX, he', hE 0 (.ref e) W h' tk' rfl (S.step.transE S.inv (made_post (s := ⟨h, gn, dr, tk, os⟩) S.inv S.sk kk hm.new he'))⟩
end
section
variable {prog : Program} {w : World} {b₀ : Heap} {K : Frag} {mg mb : Str → Option Value} {call : Bool → Addr → List V → M V} {n : Nat}
variable {env : Env} {outer : List Env} {sc : Sc}
theorem RB.mark {q : Bool} {A : Around} {e : Value} (R : RB n q A) : RB n false (A.mark (some e)) := ⟨R.depth, R.units, (fun h => by cases h), R.frames⟩
section
variable {x : Stmt} {C : Stmt → Prop} {e o i it : E} {a b hd : Ss}
theorem p_asg {n : Nat} (h : chkS sc (.asg n e) x = true) (k : ∀ y py v q, isLoc sc false n y = true → (notComp v || isCompE e) = true → chkE sc false e v = true → C (.Assign [.Name y py] v q)) : C x :=
 asgC h fun t a q g => andC g fun g1 g => andC g fun g2 g3 => nmC (C := fun t => C (.Assign [t] a.2 q)) g1 fun y py g4 => k y py a.2 q g4 g2 g3
theorem p_pair {m n : Nat} {t v : Expr} {D : Expr → Expr → Prop} (h : chkPair sc m n t v = true) (k : ∀ ya pa yb pb vs k1 p1 k2 p2, isLoc sc false m ya = true → isLoc sc false n yb = true → swapOk sc ya yb pa pb vs = true → D (.Tuple [.Name ya pa, .Name yb pb] k1 p1) (.Tuple vs k2 p2)) : D t v :=
 viewC (C := fun t => D t v) xTup_of h fun ns q1 h => twoC (C := fun l => D (.Tuple l q1.1 q1.2) v) h fun n h => viewE (C := fun u => D (.Tuple [u, n.2] q1.1 q1.2) v) xNameP_of h fun ya h => viewE (C := fun u => D (.Tuple [.Name ya.1 ya.2, u] q1.1 q1.2) v) xNameP_of h fun yb h =>
  viewC (C := fun v => D (.Tuple [.Name ya.1 ya.2, .Name yb.1 yb.2] q1.1 q1.2) v) xTup_of h fun vs q2 g => andC g fun g1 g => andC g fun g2 g3 => k ya.1 ya.2 yb.1 yb.2 vs q1.1 q1.2 q2.1 q2.2 g1 g2 g3
theorem p_pairU {m n : Nat} {t v : Expr} {D : Expr → Prop} (h : chkPairU sc m n t v = true) (k : ∀ ya pa yb pb k1 p1, isLoc sc false m ya = true → isLoc sc false n yb = true → (xCall v).isSome = true → D (.Tuple [.Name ya pa, .Name yb pb] k1 p1)) : D t :=
 viewC (C := D) xTup_of h fun ns q1 h => twoC (C := fun l => D (.Tuple l q1.1 q1.2)) h fun n h => andC h fun g1 g => andC g fun g2 g3 => nmC (C := fun u => D (.Tuple [u, n.2] q1.1 q1.2)) g1 fun ya pa g4 => nmC (C := fun u => D (.Tuple [.Name ya pa, u] q1.1 q1.2)) g2 fun yb pb g5 => k ya pa yb pb q1.1 q1.2 g4 g5 g3
theorem p_asg2 {m n : Nat} (h : chkS sc (.asg2 m n e) x = true) (k1 : ∀ ya pa yb pb vs k1 p1 k2 p2 q, isLoc sc false m ya = true → isLoc sc false n yb = true → swapOk sc ya yb pa pb vs = true → chkE sc false e (.Tuple vs k2 p2) = true → C (.Assign [.Tuple [.Name ya pa, .Name yb pb] k1 p1] (.Tuple vs k2 p2) q))
  (k2 : ∀ v ya pa yb pb k1 p1 q, isLoc sc false m ya = true → isLoc sc false n yb = true → (xCall v).isSome = true → chkE sc false e v = true → C (.Assign [.Tuple [.Name ya pa, .Name yb pb] k1 p1] v q)) : C x :=
 asgC h fun t a q g => andC g fun g1 g2 => (Bool.or_eq_true_iff.mp g1).elim (fun g1 => p_pair (D := fun t v => chkE sc false e v = true → C (.Assign [t] v q)) g1 (fun ya pa yb pb vs c1 p1 c2 p2 g3 g4 g5 g2 => k1 ya pa yb pb vs c1 p1 c2 p2 q g3 g4 g5 g2) g2)
  fun g1 => p_pairU (D := fun t => C (.Assign [t] a.2 q)) g1 fun ya pa yb pb c1 p1 g3 g4 g5 => k2 a.2 ya pa yb pb c1 p1 q g3 g4 g5 g2
theorem p_asgAttr {f : Nat} (h : chkS sc (.asgAttr o f e) x = true) (k : ∀ ov ap v q, chkE sc false o ov = true → chkE sc false e v = true → C (.Assign [.Attribute ov (fname f) ap] v q)) : C x :=
 asgC h fun t a q g => anyC g fun d hd g => andC g fun g1 g => andC g fun g2 g3 => (xAttr_of hd).elim fun ap h => by
  rw [h.2, beq_iff_eq.mp g1]; exact k d.1 ap a.2 q g2 g3
theorem p_asgIdx {c : IK} (h : chkS sc (.asgIdx c o i e) x = true) (k : ∀ ov iv ap v q, chkE sc false o ov = true → chkE sc false i iv = true → chkE sc false e v = true → C (.Assign [.Subscript ov iv ap] v q)) : C x :=
 asgC h fun t a q g => viewC (C := fun t => C (.Assign [t] a.2 q)) xSub_of g fun d ap g => andC g fun g1 g => andC g fun g2 g3 => k d.1 d.2 ap a.2 q g1 g2 g3
theorem p_ex (h : chkS sc (.ex e) x = true) (k : ∀ v q, notComp v = true → chkE sc false e v = true → C (.Expr v q)) : C x :=
 viewC sExpr_of h fun v q g => andC g fun g1 g2 => k v q g1 g2
theorem p_ife (h : chkS sc (.ife e a b) x = true) (k : ∀ t xa xb q, chkE sc false e t = true → chkSs sc a xa = true → chkSs sc b xb = true → C (.If t xa xb q)) : C x :=
 viewC sIf_of h fun v q g => andC g fun g1 g => andC g fun g2 g3 => k v.1 v.2.1 v.2.2 q g1 g2 g3
theorem p_whl (h : chkS sc (.whl e a) x = true) (k : ∀ t xa q, chkE sc false e t = true → chkSs sc a xa = true → C (.While t xa [] q)) : C x :=
 viewC sWhl_of h fun v q g => andC g fun g0 g => andC g fun g1 g2 => nilC (C := fun l => C (.While v.1 v.2.1 l q)) g0 (k v.1 v.2.1 q g1 g2)
theorem p_for {c : FK} {n : Nat} (h : chkS sc (.for1 c n it a) x = true) (k : ∀ y py xi xa q, isLoc sc false n y = true → notSet xi = true → chkE sc false it xi = true → chkSs sc a xa = true → C (.For (.Name y py) xi xa [] q)) : C x :=
 viewC sFor_of h fun v q g => andC g fun g0 g => andC g fun g1 g => andC g fun g2 g => andC g fun g3 g4 => nilC (C := fun l => C (.For v.1 v.2.1 v.2.2.1 l q)) g0 (nmC (C := fun t => C (.For t v.2.1 v.2.2.1 [] q)) g1 fun y py g5 => k y py v.2.1 v.2.2.1 q g5 g2 g3 g4)
theorem p_ret (h : chkS sc (.ret e) x = true) (k : ∀ v q, chkE sc false e v = true → C (.Return (some v) q)) : C x :=
 viewC sRet_of h fun v q g => anyC g fun u e g => e ▸ k u q g
theorem p_brk (h : chkS sc .brk x = true) (k : ∀ q, C (.Break q)) : C x := by
 obtain ⟨o, hx⟩ := Option.isSome_iff_exists.mp h
 obtain ⟨p, rfl⟩ := sBrk_of hx
 exact k p
theorem tfC {C : Expr → Prop} {e : Expr} (h : isTF sc e = true) (k : ∀ p, isGlob sc "TreeFault" = true → C (.Name "TreeFault" p)) : C e :=
 nmC h fun y q g => andC g fun g1 g2 => by cases odt g2; exact k q g1
theorem strC {C : Expr → Prop} {e : Expr} (h : isStrC e = true) (k : ∀ b c p, C (.Constant (.str b) c p)) : C e :=
 viewC xCon_of h fun a q g => by
  cases a with
  | str b => exact k b q.1 q.2
  | _ => cases g
theorem p_raise {n : Nat} (h : chkS sc (.raise n) x = true) (k : ∀ np b c bp cp q, isGlob sc "TreeFault" = true → C (.Raise (some (.Call (.Name "TreeFault" np) [.Constant (.str b) c bp] [] cp)) none q)) : n = 0 ∧ C x :=
 viewC (C := fun x => n = 0 ∧ C x) sRaise_of h fun v q g => andC g fun g1 g => andC g fun g2 g => anyC g fun e he g => ⟨beq_iff_eq.mp g1, by
  rw [noneE_of g2, he]
  exact viewE (C := fun e => C (.Raise (some e) none q)) xCall_of g fun z g => andC g fun g3 g => andC g fun g4 g => nilC (C := fun l => C (.Raise (some (.Call z.1 z.2.1 l z.2.2.2)) none q)) g3 (tfC (C := fun u => C (.Raise (some (.Call u z.2.1 [] z.2.2.2)) none q)) g4 fun np g5 =>
   oneC (C := fun l => C (.Raise (some (.Call (.Name "TreeFault" np) l [] z.2.2.2)) none q)) g fun a g => strC (C := fun u => C (.Raise (some (.Call (.Name "TreeFault" np) [u] [] z.2.2.2)) none q)) g fun b c bp => k np b c bp z.2.2.2 q g5)⟩
theorem p_try {y : Option Nat} {n : Nat} (h : chkS sc (.tryx y e b n hd) x = true) (k : ∀ s0 rest np b0 hb hp q, chkHead sc y e s0 = true → chkSs sc b rest = true → isGlob sc "TreeFault" = true → chkSs sc hd (b0 :: hb) = true → C (.Try (s0 :: rest) [.ExceptHandler (some (.Name "TreeFault" np)) none (b0 :: hb) hp] [] [] q)) : n = 0 ∧ C x :=
 viewC (C := fun x => n = 0 ∧ C x) sTry_of h fun v q g => andC g fun g1 g => andC g fun g2 g => andC g fun g3 g => by
  rw [List.isEmpty_iff.mp g1, List.isEmpty_iff.mp g2]
  refine oneC (C := fun l => n = 0 ∧ C (.Try v.1 l [] [] q)) g fun hx g => ?_
  generalize v.1 = ss at g3
  cases ss with
  | nil => cases g3
  | cons s0 rest =>
   cases hx with
   | ExceptHandler ty nm hb hp =>
    refine andC g fun g5 g => andC g fun g6 g => andC g fun g7 g => andC g fun g8 g9 => anyC g7 fun t ht g10 => andC g3 fun g11 g12 => ?_
    rw [Option.isNone_iff_eq_none.mp g5, ht]
    cases hb with
    | nil => cases g6
    | cons b0 hb => exact ⟨beq_iff_eq.mp g8, tfC (C := fun t => C (.Try (s0 :: rest) [.ExceptHandler (some t) none (b0 :: hb) hp] [] [] q)) g10 fun np g13 => k s0 rest np b0 hb hp q g11 g12 g13 g9⟩
theorem p_headA {n : Nat} (h : chkHead sc (some n) e x = true) (k : ∀ y py v q, isLoc sc false n y = true → notComp v = true → chkE sc false e v = true → C (.Assign [.Name y py] v q)) : C x :=
 asgC h fun t a q g => andC g fun g1 g => andC g fun g2 g3 => nmC (C := fun t => C (.Assign [t] a.2 q)) g1 fun y py g4 => k y py a.2 q g4 g2 g3
theorem p_headE (h : chkHead sc none e x = true) (k : ∀ v q, notComp v = true → chkE sc false e v = true → C (.Expr v q)) : C x :=
 viewC sExpr_of h fun v q g => andC g fun g1 g2 => k v q g1 g2
end
theorem swaps_comp {el : Expr} {gens : List Comprehension} {scope : Scope} {p py : Pos} {y : Str} {l : Nat} : ∃ b, swapsWith (.ListComp el gens scope p) (some (.Name y py)) l env = pure b := ⟨_, rfl⟩
theorem compC {C : E → Prop} {e : E} (h : isCompE e = true) (k : ∀ k elt tg it cond, C (.comp k elt tg it cond)) : C e := by
 cases e with
 | comp a b c d e => exact k a b c d e
 | _ => exact nfC h
theorem sim_asg {q : Bool} {A : Around} {W0 W : Wd} {st0 st : St} {h0 : Heap} {loc : Loc} {s : Shared} {i : Nat} {e : E} {y : Str} {py pos : Pos} {v : Expr} (G : Gd w K b₀ mg mb) (HC : CallOk prog w b₀ (call q) q n) (HN : NewOk prog w b₀ (call q) q n) (R : RB n q A) (X : FX A env outer sc) (N : FN h0 env) (S : SI prog w b₀ A W0 st0 h0 sc env W st s.heap loc)
  (hl : isLoc sc false i y = true) (hv : (notComp v || isCompE e) = true) (h : chkE sc false e v = true) :
  SimS prog w b₀ A (exec (.Assign [.Name y py] v pos) env) W0 st0 h0 sc env s (((ev2 (call q) q loc Loc.none e).1.bind fun v => M.pure (.next, loc.put i v)) st) := by
 refine (Bool.or_eq_true_iff.mp hv).elim (fun g => ss_asg X N hl (swaps_plain g) (sim_ev G R HC HN e h) S) fun g => ?_
 refine compC (C := fun e => chkE sc false e v = true → SimS prog w b₀ A (exec (.Assign [.Name y py] v pos) env) W0 st0 h0 sc env s (((ev2 (call q) q loc Loc.none e).1.bind fun v => M.pure (.next, loc.put i v)) st)) g (fun k elt tg it cond h => ?_) h
 refine p_comp (C := fun v => chkE sc false (.comp k elt tg it cond) v = true → SimS prog w b₀ A (exec (.Assign [.Name y py] v pos) env) W0 st0 h0 sc env s (((ev2 (call q) q loc Loc.none (.comp k elt tg it cond)).1.bind fun v => M.pure (.next, loc.put i v)) st)) h (fun el target iter ifs scope cp g2 g3 g4 g5 g6 g7 g8 h => ?_) h
 obtain ⟨bb, hb⟩ := swaps_comp (env := env) (el := el) (gens := [⟨target, iter, ifs, 0⟩]) (scope := scope) (p := cp) (py := py) (y := y) (l := pos.line)
 cases bb with
 | false => exact ss_asg X N hl hb (sim_ev G R HC HN _ h) S
 | true =>
  cases cond with
  | none =>
   obtain rfl := List.isEmpty_iff.mp g8
   exact ss_asg_comp (kk := k) (me := fun l => ev2 (call q) q l loc elt) (mc := fun _ => M.pure true) G R.hd X N hl hb g3 g4 g5 (sim_ev G R HC HN it g6) (fun env' l => sim_ev G R HC HN elt g7) (fun env' l W st s I F K => Sim.pure I rfl) S
  | some c =>
   obtain ⟨i, e2, g9⟩ := any_some g8
   obtain rfl := one_of e2
   exact ss_asg_comp (kk := k) (me := fun l => ev2 (call q) q l loc elt) (mc := fun l => (ev2 (call q) q l loc c).2) G R.hd X N hl hb g3 g4 g5 (sim_ev G R HC HN it g6) (fun env' l => sim_ev G R HC HN elt g7) (fun env' l W st s I F K => Sim.tree (fun Q E hq => wpAny_tests_one hq) (sim_ev G R HC HN c g9 W st s I F K).2) S
theorem raise_u {d n : Nat} (h : d + 4 * n + 23 < recursionLimit) : d + 20 < recursionLimit := by omega
noncomputable def SimAt (prog : Program) (w : World) (b₀ : Heap) (call : Bool → Addr → List V → M V) (n : Nat) (env : Env) (outer : List Env) (sc : Sc) (s' : S) (x : Stmt) : Prop := ∀ (q : Bool) (A : Around) (loc : Loc) (W0 W : Wd) (st0 st : St) (h0 : Heap) (s : Shared), RB n q A → FX A env outer sc → FN h0 env →
  SI prog w b₀ A W0 st0 h0 sc env W st s.heap loc → SimS prog w b₀ A (exec x env) W0 st0 h0 sc env s (evS call q loc s' st)
noncomputable def SimsAt (prog : Program) (w : World) (b₀ : Heap) (call : Bool → Addr → List V → M V) (n : Nat) (env : Env) (outer : List Env) (sc : Sc) (s' : Ss) (x : List Stmt) : Prop := ∀ (q : Bool) (A : Around) (loc : Loc) (W0 W : Wd) (st0 st : St) (h0 : Heap) (s : Shared), RB n q A → FX A env outer sc → FN h0 env →
  SI prog w b₀ A W0 st0 h0 sc env W st s.heap loc → SimS prog w b₀ A (execs x env) W0 st0 h0 sc env s (evSs call q loc s' st)
theorem sim_raise (G : Gd w K b₀ mg mb) (Y : KY K) {c : Nat} {x : Stmt} (h : chkS sc (.raise c) x = true) : SimAt prog w b₀ call n env outer sc (.raise c) x :=
 (p_raise (C := fun x => c = 0 → SimAt prog w b₀ call n env outer sc (.raise c) x) h fun np b k bp cp pos g6 e {q A loc W0 W st0 st h0 s} R X N S => by
  rw [e]
  intro r st' eq
  obtain ⟨hq, eq⟩ := onP_some eq
  exact ss_raise G Y (R.hd hq) (raise_u R.depth) g6 S r st' eq).2 (p_raise (C := fun _ => True) h fun _ _ _ _ _ _ _ => trivial).1
theorem sim_try (G : Gd w K b₀ mg mb) (HC : ∀ q, CallOk prog w b₀ (call q) q n) (HN : ∀ q, NewOk prog w b₀ (call q) q n) {y : Option Nat} {e : E} {b hd : Ss} {c : Nat} {x : Stmt} (h : chkS sc (.tryx y e b c hd) x = true)
  (xb : ∀ xs, chkSs sc b xs = true → SimsAt prog w b₀ call n env outer sc b xs) (xh : ∀ xs, chkSs sc hd xs = true → SimsAt prog w b₀ call n env outer sc hd xs) : SimAt prog w b₀ call n env outer sc (.tryx y e b c hd) x :=
 (p_try (C := fun x => c = 0 → SimAt prog w b₀ call n env outer sc (.tryx y e b c hd) x) h fun s0 rest np b0 hb hp pos g11 g12 g10 g9 e0 => by
  have xb := xb rest g12
  have xh := xh _ g9
  rw [e0]
  cases y with
  | some i =>
   refine p_headA (C := fun s0 => SimAt prog w b₀ call n env outer sc (.tryx (some i) e b 0 hd) (.Try (s0 :: rest) [.ExceptHandler (some (.Name "TreeFault" np)) none (b0 :: hb) hp] [] [] pos)) g11 fun y py v vp g16 g14 g15 => fun q A loc W0 W st0 st h0 s R X N S => ?_
   intro r st' eq
   obtain ⟨hq, eq⟩ := onP_some eq
   exact ss_try_asg (mbd := fun l => evSs call q l b) G X N (R.hd hq) g10 g16 g14 (sim_ev G R (HC q) (HN q) e g15) (fun loc W st s S => xb _ _ _ _ _ _ _ _ _ R X N S) (fun ea W st s S => xh _ _ _ _ _ _ _ _ _ R.mark X.mark N S) S r st' eq
  | none =>
   refine p_headE (C := fun s0 => SimAt prog w b₀ call n env outer sc (.tryx none e b 0 hd) (.Try (s0 :: rest) [.ExceptHandler (some (.Name "TreeFault" np)) none (b0 :: hb) hp] [] [] pos)) g11 fun v vp g14 g15 => fun q A loc W0 W st0 st h0 s R X N S => ?_
   intro r st' eq
   obtain ⟨hq, eq⟩ := onP_some eq
   exact ss_try_ex (mbd := fun l => evSs call q l b) G X (R.hd hq) g10 g14 (sim_ev G R (HC q) (HN q) e g15) (fun loc W st s S => xb _ _ _ _ _ _ _ _ _ R X N S) (fun ea W st s S => xh _ _ _ _ _ _ _ _ _ R.mark X.mark N S) S r st' eq).2 (p_try (C := fun _ => True) h fun _ _ _ _ _ _ _ _ _ _ _ => trivial).1
mutual
theorem sim_S (G : Gd w K b₀ mg mb) (Y : KY K) (HC : ∀ q, CallOk prog w b₀ (call q) q n) (HN : ∀ q, NewOk prog w b₀ (call q) q n) : ∀ (s' : S) {x : Stmt}, chkS sc s' x = true → SimAt prog w b₀ call n env outer sc s' x
 | .dead, x, h => fun _ _ _ _ _ _ _ _ _ R X N S => SimS.fail
 | .asg i e, x, h => p_asg h fun y py v p g5 g3 g4 => fun q A loc W0 W st0 st h0 s R X N S => sim_asg G (HC q) (HN q) R X N S g5 g3 g4
 | .asg2 i j e, x, h => p_asg2 h (fun ya pa yb pb vs k1 p1 k2 p2 p g4 g5 g6 g2 => fun q A loc W0 W st0 st h0 s R X N S => ss_asg2 X N g4 g5 g6 (sim_ev G R (HC q) (HN q) e g2) S)
   fun v ya pa yb pb k1 p1 p g7 g8 g6 g2 => fun q A loc W0 W st0 st h0 s R X N S => ss_asg2u X N g7 g8 g6 (sim_ev G R (HC q) (HN q) e g2) S
 | .asgAttr o f e, x, h => p_asgAttr h fun ov ap v p g3 g4 => fun q A loc W0 W st0 st h0 s R X N S => ss_asgAttr G (sim_ev G R (HC q) (HN q) o g3) (sim_ev G R (HC q) (HN q) e g4) S
 | .asgIdx k o i e, x, h => p_asgIdx h fun ov iv ap v p g1 g3 g4 => fun q A loc W0 W st0 st h0 s R X N S => ss_asgIdx G R.u (sim_ev G R (HC q) (HN q) o g1) (sim_ev G R (HC q) (HN q) i g3) (sim_ev G R (HC q) (HN q) e g4) S
 | .ex e, x, h => p_ex h fun v p g1 g2 => fun q A loc W0 W st0 st h0 s R X N S => ss_ex S.fr.kind g1 (sim_ev G R (HC q) (HN q) e g2) S
 | .ife c a b, x, h => p_ife h fun t xa xb p g1 g2 g3 => fun q A loc W0 W st0 st h0 s R X N S => ss_ife (sim_ev G R (HC q) (HN q) c g1) S (fun W st s S => sim_Ss G Y HC HN a g2 _ _ _ _ _ _ _ _ _ R X N S) (fun W st s S => sim_Ss G Y HC HN b g3 _ _ _ _ _ _ _ _ _ R X N S)
 | .whl c b, x, h => p_whl h fun t xb p g2 g3 => fun q A loc W0 W st0 st h0 s R X N S => ss_whl (mt := fun l => ev2 (call q) q l Loc.none c) X (fun loc => sim_ev G R (HC q) (HN q) c g2) (fun loc W st s S => sim_Ss G Y HC HN b g3 _ _ _ _ _ _ _ _ _ R X N S) fuelW S
 | .for1 k i it b, x, h => p_for h fun y py xi xb p g6 g3 g4 g5 => fun q A loc W0 W st0 st h0 s R X N S => ss_for G X N R.hd g6 g3 (sim_ev G R (HC q) (HN q) it g4) (fun W0 st0 h0 loc W st s N S => sim_Ss G Y HC HN b g5 _ _ _ _ _ _ _ _ _ R X N S) fuelW S
 | .ret e, x, h => p_ret h fun v p g => fun q A loc W0 W st0 st h0 s R X N S => ss_ret (sim_ev G R (HC q) (HN q) e g) S
 | .brk, x, h => p_brk h fun p => fun _ _ _ _ _ _ _ _ _ R X N S => ss_brk S
 | .raise c, x, h => sim_raise G Y h
 | .tryx y e b c hd, x, h => sim_try G HC HN h (fun xs g => sim_Ss G Y HC HN b g) fun xs g => sim_Ss G Y HC HN hd g
theorem sim_Ss (G : Gd w K b₀ mg mb) (Y : KY K) (HC : ∀ q, CallOk prog w b₀ (call q) q n) (HN : ∀ q, NewOk prog w b₀ (call q) q n) : ∀ (s' : Ss) {x : List Stmt}, chkSs sc s' x = true → SimsAt prog w b₀ call n env outer sc s' x
 | .nil, x, h => nilC h fun _ _ _ _ _ _ _ _ _ R X N S => ss_nil S
 | .cons s' r, [], h => nomatch h
 | .cons s' r, x :: xs, h => andC h fun g1 g2 => fun q A loc W0 W st0 st h0 s R X N S => ss_cons (ms := fun l => evSs call q l r) (sim_S G Y HC HN s' g1 _ _ _ _ _ _ _ _ _ R X N S) fun loc' W st s S => sim_Ss G Y HC HN r g2 _ _ _ _ _ _ _ _ _ R X N S
end
end
section
variable {prog : Program} {w : World} {b₀ : Heap} {W W' : Wd} {st st' : St} {h h' : Heap} {F : List Addr}
theorem Step.weaken {L : Addr} (S : Step (L :: F) W st h W' st' h') (hL : h.get? L = none) : Step F W st h W' st' h' :=
 ⟨S.grow, S.le, S.fresh, S.newB, fun a o e ho hf => S.exact a o e ho (hf.imp (fun q r => by
  rcases List.mem_cons.mp r with z | z
  ·rw [z, hL] at e; exact noC e
  ·exact q z) id), S.slots⟩
theorem frozen_at {a d : Addr} {oa od : Obj} (ha : h.get? a = some oa) (hd : h.get? d = some od) : ((W.freeze a oa).freeze d od).B a = some oa := by
 show (if a = d then some od else if a = a then some oa else W.B a) = _
 by_cases q : a = d
 ·subst q; rw [ha] at hd; (obtain rfl := inj1 hd); rw [if_pos rfl]
 ·rw [if_neg q, if_pos rfl]
theorem sim_freeze {v : V} {rv : Value} {r : Except Nat V} (s : Shared) (I : Inv prog w b₀ W st s.heap) (R : RV w.params W st.n v rv) (e : freezeL v st = some (r, st')) :
  ∃ v' W', r = .ok v' ∧ Inv prog w b₀ W' st' s.heap ∧ Step F W st s.heap W' st' s.heap ∧ RV w.params W' st'.n v' rv := by
 unfold freezeL at e
 cases q : slotL st v with
 | none => rw [q] at e; (obtain ⟨rfl, rfl⟩ := inj2 e); exact ⟨v, W, rfl, I, .refl _ _ _, R⟩
 | some p =>
  rw [q] at e
  obtain ⟨rfl, rfl⟩ := inj2 e
  obtain ⟨rfl, hi, hf⟩ := slotL_real R q
  obtain ⟨vs, n, ha, Rs⟩ := slot_list (s := s) I hi hf
  obtain ⟨od, hd⟩ := (I.live p.1 hi).2
  obtain ⟨I', S'⟩ := I.froze (F := F) hi (by rw [hf]; rfl) ha hd
  exact ⟨_, _, rfl, I', S', _, vs, _, rfl, frozen_at ha hd, ⟨⟨rfl, n, rfl⟩, rfl, rfl⟩, Rs.mono S'.le S'.grow⟩
end
noncomputable def fnOk (K : Frag) (a : Addr) (fn : Fn) : Bool := (fn.ps.all fun p => decide (p < vCount)) && (fnAt K a).any fun fd => fdOk K fd (fn.ps.map vname) fn.dflt (chkSs fd.scope.names fn.body)
section
variable {prog : Program} {w : World} {b₀ : Heap} {K : Frag} {mg mb : Str → Option Value} {T : Addr → Option Fn} {n : Nat}
theorem dflt_len {ps : List Nat} {fn : Fn} {vs : List V} (h : (withDflt fn vs).length = fn.ps.length) (hd : fn.dflt.length ≤ fn.ps.length) : vs.length ≤ fn.ps.length ∧ fn.ps.length ≤ vs.length + fn.dflt.length := by
 unfold withDflt at h
 rw [lApp, List.length_drop] at h
 omega
theorem ret_keep {v : V} {k : Bool} {st : St} : retV k (.ret v) st = if k = true then some (.ok v, st) else freezeL v st := by cases k <;> rfl
theorem body_step {call : Bool → Addr → List V → M V} {f : Addr} {fn : Fn} {q : Bool} {vs : List V} {rvs : List Value} {W : Wd} {st : St} {s : Shared} {A : Around} (G : Gd w K b₀ mg mb) (Y : KY K) (hfn : fnOk K f fn = true) (HC : ∀ q, CallOk prog w b₀ (call q) q n) (HN : ∀ q, NewOk prog w b₀ (call q) q n)
  (I : Inv prog w b₀ W st s.heap) (Kk : SK A W st.n s.heap) (Rm : Rm (n + 1) q A) (Rs : RVs w.params W st.n vs rvs) : SimC prog w b₀ A (.call (.ref f) ⟨rvs, []⟩) W st s (bodyFn call q fn vs st) := by
 intro r st' e R hok herr
 obtain ⟨loc, hloc, e⟩ := onO_some e
 obtain ⟨g1, g2⟩ := and2 hfn
 obtain ⟨fd, hfd, g2⟩ := any_some g2
 have P := fdOk_of g2
 have hps : ∀ p ∈ fn.ps, p < vCount := fun p hp => odt (List.all_eq_true.mp g1 p hp)
 obtain ⟨o, ho, hoc, hod⟩ := fnAt_of hfd
 obtain ⟨body, hbody, hchk⟩ := P.bod
 obtain ⟨dvs, D, RD⟩ := dflt_of (P := w.params) (n := st.n) G.X.inn I.base I.sub P.dfl
 have hlen := RD.length
 have vlen := Rs.length
 have nlen : (fn.ps.map vname).length = fn.ps.length := List.length_map _
 obtain ⟨l1, l2⟩ := dflt_len (ps := fn.ps) (bindP_len hloc) (by have := P.len; omega)
 have hll := P.len
 refine fn_call (vals := rvs) (ds := dvs) (body := body) (ns := fn.ps.map vname) (by have := Rm.depth; omega) (I.sub _ _ (I.base _ _ (G.X.inn _ _ ho))) hod (G.md.nolimit.keeps I.base_in) (codeRec_of (G.X.In I) P.code) hbody P.clo P.plain D (by omega) (by omega) (by omega)
  (fun x hx => (P.kinds x hx).imp id fun q => ⟨q, cells_look _ _ _ (.inl q)⟩) (fun s₁ binds hb x => ?_) P.co P.gen P.kind
 have RA : RVs w.params W st.n (withDflt fn vs) (rvs ++ dvs.drop (rvs.length + dvs.length - (fn.ps.map vname).length)) := by
  rw [vlen, hlen, nlen]
  exact RVs.append (RVs.drop _ RD) Rs
 have ok : ∀ i, i < vCount → ∀ v, loc i = some v → ∃ rv, ups binds (fun _ => none) (vname i) = some rv ∧ RV w.params W st.n v rv := fun i hi v hv => by
  rw [hb]
  exact ups_ok hi fn.ps _ _ _ loc _ hps RA hloc (fun v hv => by (exact noC hv)) v hv
 have F := fr_enter (cx := cxF fd.scope.names) (loc := loc) I P.glob P.bi P.kind P.nod x (fun y i hy => ⟨hy.1, fun v hv => by rw [hy.2.1]; exact ok i hy.2.2 v hv⟩) (fun y i hy => ⟨hy.1, fun v hv => by rw [hy.2.1]; exact ok i hy.2.2 v hv⟩) (fun y hy => hy) (fun _ _ h => h)
 obtain ⟨h₁, tk₁, rfl⟩ := x.toInCall.same
 have hk := x.toInCall.keep
 obtain ⟨fr0, hfr0⟩ := Rm.frames
 generalize hE : callEnvC fd s.heap.objs.size f = env at F x ⊢
 have eL : env.locals = s.heap.objs.size := by rw [← hE]; rfl
 have eF : env.frame = some env.locals := by rw [← hE]; rfl
 have eN : env.scope.names = fd.scope.names := by rw [← hE]; rfl
 have hn : s.heap.get? env.locals = none := by rw [eL]; exact Heap.get?_none_of_le (Nat.le_refl _)
 have hfr : (A.deeper env).frames = some (env :: fr0) := by show A.frames.map _ = _; rw [hfr0]; rfl
 have hfa : fAddrs (A.deeper env) = env.locals :: fAddrs A := by unfold fAddrs framesOf; rw [hfr, hfr0]; exact List.filterMap_cons_some eF
 have X : FX (A.deeper env) env fr0 fd.scope.names := ⟨hfr, eF, eN⟩
 have N : FN s.heap env := ⟨hn, fun y c hm => Heap.get?_none_of_le (by have := x.above y c hm; rw [eL] at this; exact Nat.le_of_lt this)⟩
 have K1 : SK (A.deeper env) W st.n h₁ := by
  have K0 := Kk.step (Step.of_kept (F := fAddrs A) (W := W) (st := st) hk)
  refine ⟨fun env' hm => ?_, K0.hd, K0.hdo⟩
  unfold framesOf at hm
  rw [hfr] at hm
  rcases List.mem_cons.mp hm with rfl | hm
  ·obtain ⟨m, ⟨o, es, ep, ho, hd, _⟩, _⟩ := F.ns
   exact ⟨by rw [F.kind]; decide, _, eF, ⟨o, ho, es, ep, hd⟩, F.out⟩
  ·exact K0.fr env' (by unfold framesOf; rw [hfr0]; exact hm)
 have S1 : SI prog w b₀ (A.deeper env) W st s.heap fd.scope.names env W st h₁ loc := ⟨I.kept hk, .of_kept hk, F, K1⟩
 have RBd : RB n q (A.deeper env) := ⟨by have := Rm.depth; show A.depth + 1 + 4 * n + 23 < _; omega, by have := Rm.units; show A.units + 3 + 20 * n + 117 < _; omega, Rm.hd, _, hfr⟩
 have low : ∀ {W2 : Wd} {st1 : St} {h2 : Heap}, Step (fAddrs (A.deeper env)) W st s.heap W2 st1 h2 → Step (fAddrs A) W st s.heap W2 st1 h2 := fun S => Step.weaken (hfa ▸ S) hn
 refine (sim_Ss G Y HC HN fn.body hchk _ _ _ _ _ _ _ _ _ RBd X N S1).go e (fun loc' W2 st1 h2 tk2 S2 e => ?_) (fun loc' W2 st1 h2 tk2 S2 e => noC e) (fun v rv loc' W2 st1 h2 tk2 S2 R2 e => ?_) fun c ex W2 h2 tk2 hr X2 => ex_leave (A₀ := A) X2 hfr hfr0 eF hn fun h3 X3 => herr c ex W2 h3 tk2 hr X3
 ·have e := inj2 e
  exact hok .nil .none W2 h2 tk2 e.1.symm (e.2 ▸ S2.inv) (e.2 ▸ low S2.step) rfl
 ·replace e : (if fn.keep = true then some (Except.ok v, st1) else freezeL v st1) = some (r, st') := (ret_keep (v := v) (k := fn.keep) (st := st1)).symm.trans e
  by_cases hkp : fn.keep = true
  ·rw [if_pos hkp] at e
   have e := inj2 e
   exact hok v rv W2 h2 tk2 e.1.symm (e.2 ▸ S2.inv) (e.2 ▸ low S2.step) (e.2 ▸ R2)
  ·rw [if_neg hkp] at e
   refine (sim_freeze (F := fAddrs A) ⟨h2, s.gens, s.drawn, tk2, s.os⟩ S2.inv R2 e).elim fun v' H => H.elim fun W3 H => ?_
   exact hok v' rv W3 h2 tk2 H.1 H.2.1 ((low S2.step).trans S2.inv H.2.2.1) H.2.2.2
mutual
theorem RV.clo {P : Params} {W W' : Wd} {n n' : Nat} (hB : ∀ a o, W.B a = some o → W'.B a = some o) : ∀ {v : V} {rv : Value}, v.clo = true → RV P W n v rv → RV P W' n' v rv
 | .nil, _, _, h => h
 | .bool _, _, _, h => h
 | .int _, _, _, h => h
 | .str _, _, _, h => h
 | .bytes _, _, _, h => h
 | .obj c fs, _, hc, h => h.elim fun a h => h.elim fun d h => h.elim fun es h => h.elim fun k h => ⟨a, d, es, k, h.1, hB _ _ h.2.1, hB _ _ h.2.2.1, h.2.2.2.1, RVs.clo hB hc h.2.2.2.2⟩
 | .tup xs, _, hc, h => h.elim fun a h => h.elim fun vs h => h.elim fun k h => ⟨a, vs, k, h.1, hB _ _ h.2.1, RVs.clo hB hc h.2.2⟩
 | .lst xs, _, hc, h => h.elim fun a h => h.elim fun vs h => h.elim fun o h => ⟨a, vs, o, h.1, hB _ _ h.2.1, h.2.2.1, RVs.clo hB hc h.2.2.2⟩
 | .rng _ _ _, _, _, h => h.elim fun r h => h.elim fun t h => h.elim fun u h => h.elim fun v h => ⟨r, t, u, v, h.1, hB _ _ h.2⟩
 | .ref _, _, hc, _ => by exact nfC hc
theorem RVs.clo {P : Params} {W W' : Wd} {n n' : Nat} (hB : ∀ a o, W.B a = some o → W'.B a = some o) : ∀ {vs : List V} {rvs : List Value}, clos vs = true → RVs P W n vs rvs → RVs P W' n' vs rvs
 | [], _, _, h => h
 | x :: xs, _, hc, h => h.elim fun r h => h.elim fun rs h => ⟨r, rs, h.1, RV.clo hB (and2 hc).1 h.2.1, RVs.clo hB (and2 hc).2 h.2.2⟩
end
theorem clo_back {A : Around} {W W' : Wd} {st st1 : St} {h h' : Heap} (I : Inv prog w b₀ W st h) (Kk : SK A W st.n h) (I' : Inv prog w b₀ W' st1 h') (S : Step (fAddrs A) W st0 h W' st1 h') :
  Inv prog w b₀ ⟨W.ρ, W.σ, W'.B⟩ st h' ∧ Step (fAddrs A) W st h ⟨W.ρ, W.σ, W'.B⟩ st h' := by
 have no : ∀ a, ¬ Owned W st0.n a := fun a ⟨i, hi, _⟩ => absurd hi (Nat.not_lt_zero _)
 have nf : ∀ a, Owned W st.n a → a ∉ fAddrs A := fun a ho hm => by
  obtain ⟨env, he, hf⟩ := List.mem_filterMap.mp hm
  obtain ⟨_, L, hf', _, q1, _⟩ := Kk.fr env he
  rw [hf] at hf'; obtain rfl := inj1 hf'
  exact q1 ho
 have keep : ∀ a o, h.get? a = some o → Owned W st.n a → h'.get? a = some o := fun a o e ho => S.exact a o e (no a) (.inl (nf a ho))
 have L : W.Le ⟨W.ρ, W.σ, W'.B⟩ st.n := ⟨fun _ _ => ⟨rfl, rfl⟩, S.le.2⟩
 have nb : ∀ a o, h.get? a = some o → W.B a = none → W'.B a = none := fun a o e hb => by
  cases q : W'.B a with
  | none => rfl
  | some o' =>
   rcases S.newB a o' q with z | z | z
   ·rw [hb] at z; exact noC z
   ·exact (no a z).elim
   ·rw [e] at z; exact nsC z
 refine ⟨⟨I'.base, I'.sub, fun i hi => (I.own i hi).keep L (Nat.le_refl _) hi (fun a o q e => keep a o e ⟨i, hi, q⟩) fun b o e => ⟨I.sub b o e, I'.sub b o (S.le.2 b o e)⟩, fun i hi hg => ?_, I.inj, fun i hi => ?_⟩, Nat.le_refl _, L, fun i h1 h2 => absurd h2 (Nat.not_lt.mpr h1), fun a o e => ?_, fun a o e _ hf => S.exact a o e (no a) hf, fun a o e _ => S.slots a o e (no a)⟩
 ·obtain ⟨⟨o1, l1⟩, ⟨o2, l2⟩⟩ := I.live i hi
  exact ⟨nb _ _ l1 (I.apart i hi hg).1, nb _ _ l2 (I.apart i hi hg).2⟩
 ·obtain ⟨⟨o1, l1⟩, ⟨o2, l2⟩⟩ := I.live i hi
  exact ⟨⟨o1, keep _ _ l1 ⟨i, hi, .inl rfl⟩⟩, ⟨o2, keep _ _ l2 ⟨i, hi, .inr rfl⟩⟩⟩
 ·rcases S.newB a o e with z | z | z
  ·exact .inl z
  ·exact (no a z).elim
  ·exact .inr (.inr z)
theorem call_step (G : Gd w K b₀ mg mb) (Y : KY K) (HT : ∀ a fn, T a = some fn → fnOk K a fn = true) (HC : ∀ q, CallOk prog w b₀ (callFn T n q) q n) (HN : ∀ q, NewOk prog w b₀ (callFn T n q) q n) (q : Bool) : CallOk prog w b₀ (callFn T (n + 1) q) q (n + 1) := by
 intro f vs rvs W st s A I Kk Rm Rs r st' e R hok herr
 obtain ⟨fn, hfn, e⟩ := onO_some (show onO (T f) (fun fn => cloM vs (bodyFn (callFn T n) q fn vs)) st = some (r, st') from e)
 unfold cloM at e
 by_cases hc : clos vs = true
 ·rw [if_pos hc] at e
  cases q1 : bodyFn (callFn T n) q fn vs st0 with
  | none => rw [q1] at e; exact noC e
  | some p =>
   obtain ⟨r1, st1⟩ := p
   rw [q1] at e
   cases r1 with
   | error c => exact noC e
   | ok v =>
    replace e : (if v.clo = true then some (Except.ok v, st) else Option.none) = some (r, st') := e
    by_cases hv : v.clo = true
    ·rw [if_pos hv] at e
     obtain ⟨rfl, rfl⟩ := inj2 e
     have none : ∀ {i : Nat} {p : Prop}, i < st0.n → p := fun hi => absurd hi (Nat.not_lt_zero _)
     refine body_step G Y (HT f fn hfn) HC HN (st := st0) ⟨I.base, I.sub, fun i hi => none hi, fun i hi => none hi, fun i j hi => none hi, fun i hi => none hi⟩ ⟨fun env he => ?_, Kk.hd, fun ea _ ⟨i, hi, _⟩ => none hi⟩ Rm (RVs.clo (fun _ _ e => e) hc Rs) _ st1 q1 R (fun a b W' h' tk hr I' S' R' => ?_) fun c ex W' h' tk hr => by exact oeC hr
     ·obtain ⟨k, L, hf, ho, _, q2⟩ := Kk.fr env he
      exact ⟨k, L, hf, ho, fun ⟨i, hi, _⟩ => none hi, q2⟩
     ·(obtain rfl := injO hr)
      obtain ⟨I2, S2⟩ := clo_back I Kk I' S'
      exact hok v b _ h' tk rfl I2 S2 (RV.clo (W := W') (W' := ⟨W.ρ, W.σ, W'.B⟩) (fun _ _ e => e) hv R')
    ·rw [if_neg hv] at e; exact noC e
 ·rw [if_neg hc] at e
  exact body_step G Y (HT f fn hfn) HC HN I Kk Rm Rs r st' e R hok herr
end
section
variable {prog : Program} {w : World} {b₀ : Heap} {K : Frag} {mg mb : Str → Option Value} {W W' : Wd} {st st' : St} {h h' : Heap} {F : List Addr}
theorem sim_freezeLs (s : Shared) : ∀ (vs : List V) {rvs : List Value} {W : Wd} {st st' : St} {r : Except Nat (List V)}, Inv prog w b₀ W st s.heap → RVs w.params W st.n vs rvs → freezeLs vs st = some (r, st') →
  ∃ vs' W', r = .ok vs' ∧ Inv prog w b₀ W' st' s.heap ∧ Step F W st s.heap W' st' s.heap ∧ RVs w.params W' st'.n vs' rvs
 | [], rvs, W, st, st', r, I, R, e => by (obtain ⟨rfl, rfl⟩ := inj2 e); exact ⟨[], W, rfl, I, .refl _ _ _, R⟩
 | v :: vs, rvs, W, st, st', r, I, R, e => by
  obtain ⟨rv, rs, rfl, R1, R2⟩ := R
  have e : ((freezeL v).bind fun v' => (freezeLs vs).bind fun r' => M.pure (v' :: r')) st = some (r, st') := e
  unfold M.bind at e
  cases q : freezeL v st with
  | none => rw [q] at e; exact noC e
  | some p =>
   obtain ⟨r1, st1⟩ := p
   obtain ⟨v', W1, rfl, I1, S1, R1'⟩ := sim_freeze (F := F) s I R1 q
   rw [q] at e
   dsimp only at e
   cases q2 : freezeLs vs st1 with
   | none => rw [q2] at e; exact noC e
   | some p2 =>
    obtain ⟨r2, st2⟩ := p2
    obtain ⟨vs', W2, rfl, I2, S2, R2'⟩ := sim_freezeLs s vs I1 (R2.mono S1.le S1.grow) q2
    rw [q2] at e
    obtain ⟨rfl, rfl⟩ := inj2 e
    exact ⟨v' :: vs', W2, rfl, I2, S1.trans I1 S2, rv, rs, rfl, R1'.mono S2.le S2.grow, R2'⟩
theorem sim_freezeO (s : Shared) {i : Nat} {r : Except Nat V} (hi : i < st.n) (I : Inv prog w b₀ W st s.heap) (e : freezeO i st = some (r, st')) :
  ∃ v' W', r = .ok v' ∧ Inv prog w b₀ W' st' s.heap ∧ Step F W st s.heap W' st' s.heap ∧ RV w.params W' st'.n v' (.ref (W.ρ i)) := by
 obtain ⟨p, hp, e⟩ := onO_some e
 obtain ⟨q, hq, e1⟩ := bndS hp
 obtain ⟨⟨c, fs⟩, hx, rfl⟩ := mapS e1
 obtain rfl := inj1 (show some (i, st.f i) = some q from hq)
 ·have hf : st.f i = .inst c fs := by revert hx; cases st.f i <;> intro hx <;> (first | exact nfC hx | (obtain ⟨rfl, rfl⟩ := inj2 hx) | cases hx); rfl
  obtain ⟨_, e⟩ := onP_some e
  have ho := I.own i hi
  rw [hf] at ho
  obtain ⟨es, k, ha, hd, hE, hR⟩ := ho
  obtain ⟨I1, S1⟩ := I.froze (F := F) hi (by rw [hf]; rfl) ha hd
  have hda : ((W.freeze (W.ρ i) (instObj (clsAddr c) (W.σ i))).freeze (W.σ i) (dictOf es k)).B (W.σ i) = some (dictOf es k) := if_pos rfl
  by_cases h3 : c = 3
  ·rw [if_pos h3] at e
   unfold M.bind at e
   cases q2 : freezeLs fs (st.set i .gone) with
   | none => rw [q2] at e; exact noC e
   | some p2 =>
    obtain ⟨r2, st2⟩ := p2
    obtain ⟨vs', W2, rfl, I2, S2, R2⟩ := sim_freezeLs (F := F) s fs I1 (hR.mono S1.le S1.grow) q2
    rw [q2] at e
    obtain ⟨rfl, rfl⟩ := inj2 e
    exact ⟨_, W2, rfl, I2, S1.trans I1 S2, _, _, es, k, rfl, S2.le.2 _ _ (frozen_at ha hd), S2.le.2 _ _ hda, hE, R2⟩
  ·rw [if_neg h3] at e
   obtain ⟨rfl, rfl⟩ := inj2 e
   exact ⟨_, _, rfl, I1, S1, _, _, es, k, rfl, frozen_at ha hd, hda, hE, hR.mono S1.le S1.grow⟩
end
section
variable {prog : Program} {w : World} {b₀ : Heap} {K : Frag} {mg mb : Str → Option Value} {call : Addr → List V → M V} {q : Bool} {n : Nat}
theorem ExPost.reframe {A A' : Around} {W W' : Wd} {st st' : St} {h h' : Heap} {c : Nat} {e : Value} (hA : framesOf A' = framesOf A) (X : ExPost prog w b₀ A' W st h W' st' h' c e) : ExPost prog w b₀ A W st h W' st' h' c e := by
 have hf : fAddrs A' = fAddrs A := congrArg (·.filterMap (·.frame)) hA
 have x := X.ex
 rw [hA, hf] at x
 exact ⟨X.inv, hf ▸ X.step, hf ▸ X.fro, x⟩
theorem new_ok (G : Gd w K b₀ mg mb) (Y : KY K) (HC : CallOk prog w b₀ call q n) : NewOk prog w b₀ call q n := by
 intro c vs rvs W st s A hc I Kk R Rs r st' e Rf hok herr
 obtain ⟨g1, g2⟩ := and2 (List.all_eq_true.mp Y.mks c (List.mem_range.mpr hc))
 obtain ⟨g2, g3⟩ := and2 g2
 obtain ⟨h, gn, dr, tk, os⟩ := s
 have X := G.X.In I
 refine make_core (makes_of X g1) (looks_findIn X (beq_iff_eq.mp g2)) (fun self => bind_fn X self (beq_iff_eq.mp g3)) (.inl rfl) ?_
 have k : ∀ b o, h.get? b = some o → ((h.push emptyDict).push (instObj (clsAddr c) h.objs.size)).get? b = some o := fun b o e => Heap.get?_push_of_some _ (Heap.get?_push_of_some _ e)
 have hx : ((h.push emptyDict).push (instObj (clsAddr c) h.objs.size)).get? (h.objs.size + 1) = some (instObj (clsAddr c) h.objs.size) := by
  have := Heap.get?_push_size (h.push emptyDict) (o := instObj (clsAddr c) h.objs.size) rfl
  rwa [Heap.size_push] at this
 have hd : ((h.push emptyDict).push (instObj (clsAddr c) h.objs.size)).get? h.objs.size = some (dictOf [] 0) := Heap.get?_push_of_some _ (Heap.get?_push_size h (o := emptyDict) rfl)
 generalize ((h.push emptyDict).push (instObj (clsAddr c) h.objs.size)) = h2 at k hx hd ⊢
 obtain ⟨I1, S1⟩ := I.slotted (F := fAddrs A) (a := h.objs.size + 1) (d := h.objs.size) (ob := .inst c []) k (Heap.get?_none_of_le (Nat.le_succ _)) (Heap.get?_none_of_le (Nat.le_refl _)) ⟨_, hx⟩ ⟨_, hd⟩
  ⟨[], 0, by rw [Wd.slot_ρ, Wd.slot_σ]; exact hx, by rw [Wd.slot_σ]; exact hd, trivial, rfl⟩
 have hA : framesOf (A.under (.builtin "type.__call__" ⟨.ref (clsAddr c) :: rvs, []⟩)) = framesOf A := by
  unfold framesOf
  exact congrArg (·.getD []) (show pushEnvs (Code.builtin "type.__call__" ⟨.ref (clsAddr c) :: rvs, []⟩).envs A.frames = A.frames from by rw [show (Code.builtin "type.__call__" ⟨.ref (clsAddr c) :: rvs, []⟩).envs = [] from rfl]; rfl)
 have hff : fAddrs (A.under (.builtin "type.__call__" ⟨.ref (clsAddr c) :: rvs, []⟩)) = fAddrs A := congrArg (·.filterMap (·.frame)) hA
 have RM : Rm n q (A.under (.builtin "type.__call__" ⟨.ref (clsAddr c) :: rvs, []⟩)) := by
  refine ⟨?_, ?_, R.hd, ?_⟩
  ·have := R.depth; exact (show A.depth + 1 + 4 * n + 20 < recursionLimit by omega)
  ·have := R.units; exact (show A.units + 1 + 20 * n + 100 < cLine by omega)
  ·obtain ⟨l, hl⟩ := R.frames
   exact ⟨l, (show pushEnvs (Code.builtin "type.__call__" ⟨.ref (clsAddr c) :: rvs, []⟩).envs A.frames = some l from by rw [show (Code.builtin "type.__call__" ⟨.ref (clsAddr c) :: rvs, []⟩).envs = [] from rfl]; exact hl)⟩
 have K0 := Kk.step S1
 have K1 : SK (A.under (.builtin "type.__call__" ⟨.ref (clsAddr c) :: rvs, []⟩)) (W.slot st.n (h.objs.size + 1) h.objs.size) (st.push (.inst c [])).n h2 := ⟨fun env he => K0.fr env (hA ▸ he), K0.hd, K0.hdo⟩
 generalize A.under (.builtin "type.__call__" ⟨.ref (clsAddr c) :: rvs, []⟩) = A' at hA hff RM K1 ⊢
 replace e : ((call (initAddr c) (.ref st.n :: vs)).bind fun r => onP (r.isNil = true) (onO (V.ref st.n).ref? freezeO)) (st.push (.inst c [])) = some (r, st') := e
 unfold M.bind at e
 cases q1 : call (initAddr c) (.ref st.n :: vs) (st.push (.inst c [])) with
 | none => rw [q1] at e; exact noC e
 | some p =>
  obtain ⟨r1, st1⟩ := p
  rw [q1] at e
  refine HC (initAddr c) (.ref st.n :: vs) (.ref (h.objs.size + 1) :: rvs) _ (st.push (.inst c [])) ⟨h2, gn, dr, tk, os⟩ A' I1 K1 RM ⟨_, _, rfl, ⟨by rw [Wd.slot_ρ], lts _⟩, Rs.mono S1.le S1.grow⟩ r1 st1 q1 _ (fun a b W2 h3 tk3 hr I2 S2 R2 => ?_) fun c' e' W2 h3 tk3 hr X2 => ?_
  ·subst hr
   obtain ⟨hz, e⟩ := onP_some e
   obtain rfl := (V.ofNil hz : _ = _)
   rw [hff] at S2
   obtain ⟨v', W3, rfl, I3, S3, R3⟩ := sim_freezeO (F := fAddrs A) ⟨h3, gn, dr, tk3, os⟩ (ltl (lts _) S2.grow) I2 e
   have hρ : W2.ρ st.n = h.objs.size + 1 := (S2.le.1 st.n (lts _)).1.trans Wd.slot_ρ
   rw [hρ] at R3
   exact ⟨R2, hok v' _ W3 h3 tk3 rfl I3 (S1.trans I1 (S2.trans I2 S3)) R3⟩
  ·subst hr
   obtain ⟨rfl, rfl⟩ := inj2 e
   exact herr c' e' W2 h3 tk3 rfl (S1.transE I1 (X2.reframe hA))
theorem calls_ok (G : Gd w K b₀ mg mb) (Y : KY K) {T : Addr → Option Fn} (HT : ∀ a fn, T a = some fn → fnOk K a fn = true) : ∀ n q, CallOk prog w b₀ (callFn T n q) q n
 | 0, q => fun f vs rvs W st s A I K R Rs r st' e => by exact noC e
 | n + 1, q => call_step G Y HT (calls_ok G Y HT n) (fun q => new_ok G Y (calls_ok G Y HT n q)) q
end
end Mine
end
section
open PySem PySem.W
namespace Mine
noncomputable def f180 : Fn := ⟨[2, 8], [], (.cons (.asgAttr (.loc 2) 0 (.loc 8)) .nil), false⟩
noncomputable def f202 : Fn := ⟨[2, 10, 9], [.bool false], (.cons (.asgAttr (.loc 2) 1 (.loc 10)) (.cons (.asgAttr (.loc 2) 2 (.loc 9)) .nil)), false⟩
noncomputable def f244 : Fn := ⟨[2, 7, 12], [], (.cons (.asgAttr (.loc 2) 3 (.loc 7)) (.cons (.asgAttr (.loc 2) 4 (.loc 12)) .nil)), false⟩
noncomputable def f251 : Fn := ⟨[2], [], (.cons (.ret (.tup (.cons (.attr (.loc 2) 3) (.cons (.attr (.loc 2) 4) .nil)))) .nil), false⟩
noncomputable def f265 : Fn := ⟨[13], [], (.cons (.ife (.cmp .isNone false (.loc 13) (.lit .nil)) (.cons (.ret (.lit (.str "null"))) .nil) .nil) (.cons (.ife (.isin (.loc 13) (.bool)) (.cons (.ret (.lit (.str "truth"))) .nil) .nil) (.cons (.ife (.isin (.loc 13) (.int)) (.cons (.ret (.lit (.str "int"))) .nil) .nil) (.cons (.ife (.isin (.loc 13) (.cls 155)) (.cons (.ret (.lit (.str "real"))) .nil) .nil) (.cons (.ife (.isin (.loc 13) (.cls 183)) (.cons (.ret (.lit (.str "name"))) .nil) .nil) (.cons (.ife (.isin (.loc 13) (.cls 205)) (.cons (.ret (.lit (.str "string"))) .nil) .nil) (.cons (.ife (.isin (.loc 13) (.list)) (.cons (.ret (.lit (.str "array"))) .nil) .nil) (.cons (.ife (.isin (.loc 13) (.dict)) (.cons (.ret (.lit (.str "dict"))) .nil) .nil) (.cons (.ife (.isin (.loc 13) (.cls 226)) (.cons (.ret (.lit (.str "stream"))) .nil) .nil) (.cons (.ife (.isin (.loc 13) (.cls 254)) (.cons (.ret (.lit (.str "ref"))) .nil) .nil) (.cons .dead .nil))))))))))), false⟩
noncomputable def f272 : Fn := ⟨[14, 13], [], (.cons (.ife (.cmp .eqS false (.loc 14) (.lit (.str "null"))) (.cons (.ret (.tup (.cons (.lit (.str "null")) .nil))) .nil) .nil) (.cons (.ife (.cmp .eqS false (.loc 14) (.lit (.str "truth"))) (.cons (.ret (.tup (.cons (.lit (.str "truth")) (.cons (.ite (.loc 13) (.lit (.int 1)) (.lit (.int 0))) .nil)))) .nil) .nil) (.cons (.ife (.cmp .eqS false (.loc 14) (.lit (.str "int"))) (.cons (.ret (.tup (.cons (.lit (.str "int")) (.cons (.loc 13) .nil)))) .nil) .nil) (.cons (.ife (.cmp .eqS false (.loc 14) (.lit (.str "real"))) (.cons .dead .nil) .nil) (.cons (.ife (.cmp .eqS false (.loc 14) (.lit (.str "name"))) (.cons (.ret (.tup (.cons (.lit (.str "name")) (.cons (.attr (.loc 13) 0) .nil)))) .nil) .nil) (.cons (.ife (.cmp .eqS false (.loc 14) (.lit (.str "string"))) (.cons (.ret (.tup (.cons (.lit (.str "string")) (.cons (.bi .bytesB (.cons (.attr (.loc 13) 1) .nil)) .nil)))) .nil) .nil) (.cons (.ret (.tup (.cons (.lit (.str "ref")) (.cons (.attr (.loc 13) 3) (.cons (.attr (.loc 13) 4) .nil))))) .nil))))))), false⟩
noncomputable def f277 : Fn := ⟨[13], [], (.cons (.asg 14 (.callF 265 (.cons (.loc 13) .nil))) (.cons (.ife (.cmp .eqS false (.loc 14) (.lit (.str "array"))) (.cons (.ret (.bin .addT (.tup (.cons (.lit (.str "array")) .nil)) (.bi .tuple (.cons (.comp .lst (.callF 277 (.cons (.loc 16) .nil)) [16] (.loc 13) none) .nil)))) .nil) .nil) (.cons (.ife (.cmp .eqS false (.loc 14) (.lit (.str "dict"))) (.cons (.ret (.bin .addT (.tup (.cons (.lit (.str "dict")) .nil)) (.bi .tuple (.cons (.comp .lst (.tup (.cons (.loc 15) (.cons (.callF 277 (.cons (.idx .dct (.up 13) (.loc 15)) .nil)) .nil))) [15] (.bi .sortDS (.cons (.loc 13) .nil)) (some (.cmp .isNone true (.idx .dct (.up 13) (.loc 15)) (.lit .nil)))) .nil)))) .nil) .nil) (.cons (.ife (.cmp .eqS false (.loc 14) (.lit (.str "stream"))) (.cons .dead .nil) .nil) (.cons (.ret (.callF 272 (.cons (.loc 14) (.cons (.loc 13) .nil)))) .nil))))), false⟩
noncomputable def f292 : Fn := ⟨[2, 17, 18], [.nil, .nil], (.cons (.asgAttr (.loc 2) 5 (.ite (.cmp .isNone false (.loc 17) (.lit .nil)) (.dct [] .nil) (.loc 17))) (.cons (.asgAttr (.loc 2) 6 (.ite (.cmp .isNone false (.loc 18) (.lit .nil)) (.dct [] .nil) (.loc 18))) .nil)), false⟩
noncomputable def f299 : Fn := ⟨[2, 13], [], (.cons (.asg 20 (.loc 13)) (.cons (.for1 .rng 21 (.bi .range1 (.cons (.lit (.int 30)) .nil)) (.cons (.ife (.not (.isin (.loc 20) (.cls 254))) (.cons (.ret (.loc 20)) .nil) .nil) (.cons (.asg2 12 19 (.callB .get2 (.attr (.loc 2) 5) (.cons (.attr (.loc 20) 3) (.cons (.tup (.cons (.neg (.lit (.int 1))) (.cons (.lit .nil) .nil))) .nil)))) (.cons (.ife (.cmp .eqI true (.loc 12) (.attr (.loc 20) 4)) (.cons (.ret (.lit .nil)) .nil) .nil) (.cons (.asg 20 (.loc 19)) .nil))))) (.cons (.ret (.ite (.isin (.loc 20) (.cls 254)) (.lit .nil) (.loc 20))) .nil))), false⟩
noncomputable def f306 : Fn := ⟨[2, 11, 15], [], (.cons (.ret (.callO 4 1 (.loc 2) (.cons (.callB .get1 (.loc 11) (.cons (.loc 15) .nil)) .nil))) .nil), false⟩
noncomputable def f327 : Fn := ⟨[2, 7, 12, 13], [], (.cons (.asgIdx .dct (.attr (.loc 2) 5) (.loc 7) (.tup (.cons (.loc 12) (.cons (.loc 13) .nil)))) .nil), false⟩
noncomputable def f334 : Fn := ⟨[2, 13], [], (.cons (.asg 7 (.lit (.int 1))) (.cons (.whl (.cmp .inD false (.loc 7) (.attr (.loc 2) 5)) (.cons (.asg 7 (.bin .add (.loc 7) (.lit (.int 1)))) .nil)) (.cons (.asgIdx .dct (.attr (.loc 2) 5) (.loc 7) (.tup (.cons (.lit (.int 0)) (.cons (.loc 13) .nil)))) (.cons (.ret (.new 2 (.cons (.loc 7) (.cons (.lit (.int 0)) .nil)))) .nil)))), false⟩
noncomputable def f348 : Fn := ⟨[2], [], (.cons (.ret (.bi .sortDI (.cons (.attr (.loc 2) 5) .nil))) .nil), true⟩
noncomputable def f355 : Fn := ⟨[2], [], (.cons (.asg 19 (.callO 4 2 (.loc 2) (.cons (.attr (.loc 2) 6) (.cons (.lit (.str "Root")) .nil)))) (.cons (.ret (.ite (.isin (.loc 19) (.dict)) (.loc 19) (.dct [] .nil))) .nil)), false⟩
noncomputable def f381 : Fn := ⟨[2, 26, 25, 23, 24], [.nil, .bool false, .tup []], (.cons (.asgAttr (.loc 2) 7 (.loc 26)) (.cons (.asgAttr (.loc 2) 8 (.loc 25)) (.cons (.asgAttr (.loc 2) 9 (.and (.cons (.loc 23) (.cons (.cmp .le true (.bi .lenL (.cons (.loc 24) .nil)) (.lit (.int 0))) .nil)))) (.cons (.asgAttr (.loc 2) 10 (.bi .listT (.cons (.loc 24) .nil))) .nil)))), false⟩
noncomputable def f395 : Fn := ⟨[], [], (.cons (.ret (.tup (.cons (.lit (.int 728)) (.cons (.lit (.int 711)) (.cons (.lit (.int 710)) (.cons (.lit (.int 729)) (.cons (.lit (.int 733)) (.cons (.lit (.int 731)) (.cons (.lit (.int 730)) (.cons (.lit (.int 732)) .nil)))))))))) .nil), false⟩
noncomputable def f402 : Fn := ⟨[], [], (.cons (.asg 27 (.tup (.cons (.lit (.int 8226)) (.cons (.lit (.int 8224)) (.cons (.lit (.int 8225)) (.cons (.lit (.int 8230)) (.cons (.lit (.int 8212)) (.cons (.lit (.int 8211)) (.cons (.lit (.int 402)) (.cons (.lit (.int 8260)) (.cons (.lit (.int 8249)) (.cons (.lit (.int 8250)) (.cons (.lit (.int 8722)) (.cons (.lit (.int 8240)) .nil)))))))))))))) (.cons (.asg 28 (.tup (.cons (.lit (.int 8222)) (.cons (.lit (.int 8220)) (.cons (.lit (.int 8221)) (.cons (.lit (.int 8216)) (.cons (.lit (.int 8217)) (.cons (.lit (.int 8218)) (.cons (.lit (.int 8482)) (.cons (.lit (.int 64257)) (.cons (.lit (.int 64258)) .nil))))))))))) (.cons (.ret (.bin .addT (.bin .addT (.loc 27) (.loc 28)) (.tup (.cons (.lit (.int 321)) (.cons (.lit (.int 338)) (.cons (.lit (.int 352)) (.cons (.lit (.int 376)) (.cons (.lit (.int 381)) (.cons (.lit (.int 305)) (.cons (.lit (.int 322)) (.cons (.lit (.int 339)) (.cons (.lit (.int 353)) (.cons (.lit (.int 382)) .nil))))))))))))) .nil))), false⟩
noncomputable def f409 : Fn := ⟨[29], [], (.cons (.ife (.or (.cons (.cmp .inT false (.loc 29) (.tup (.cons (.lit (.int 9)) (.cons (.lit (.int 10)) (.cons (.lit (.int 13)) .nil))))) (.cons (.cmp2 .le .lt (.lit (.int 32)) (.loc 29) (.lit (.int 127))) (.cons (.and (.cons (.cmp2 .lt .lt (.lit (.int 160)) (.loc 29) (.lit (.int 256))) (.cons (.cmp .eqI true (.loc 29) (.lit (.int 173))) .nil))) .nil)))) (.cons (.ret (.loc 29)) .nil) .nil) (.cons (.ife (.cmp2 .le .lt (.lit (.int 24)) (.loc 29) (.lit (.int 32))) (.cons (.ret (.idx .tup (.callF 395 .nil) (.bin .sub (.loc 29) (.lit (.int 24))))) .nil) .nil) (.cons (.ife (.cmp2 .le .lt (.lit (.int 128)) (.loc 29) (.lit (.int 159))) (.cons (.ret (.idx .tup (.callF 402 .nil) (.bin .sub (.loc 29) (.lit (.int 128))))) .nil) .nil) (.cons (.ret (.ite (.cmp .eqI false (.loc 29) (.lit (.int 160))) (.lit (.int 8364)) (.lit (.int 65533)))) .nil)))), false⟩
noncomputable def f416 : Fn := ⟨[30], [], (.cons (.ife (.cmp .lt false (.loc 30) (.lit (.int 256))) (.cons (.ret (.ite (.cmp .eqI false (.callF 409 (.cons (.loc 30) .nil)) (.loc 30)) (.loc 30) (.neg (.lit (.int 1))))) .nil) .nil) (.cons (.ife (.cmp .inT false (.loc 30) (.callF 395 .nil)) (.cons (.ret (.bin .add (.lit (.int 24)) (.callB .index (.callF 395 .nil) (.cons (.loc 30) .nil)))) .nil) .nil) (.cons (.ife (.cmp .inT false (.loc 30) (.callF 402 .nil)) (.cons (.ret (.bin .add (.lit (.int 128)) (.callB .index (.callF 402 .nil) (.cons (.loc 30) .nil)))) .nil) .nil) (.cons (.ret (.ite (.cmp .eqI false (.loc 30) (.lit (.int 8364))) (.lit (.int 160)) (.neg (.lit (.int 1))))) .nil)))), false⟩
noncomputable def f423 : Fn := ⟨[8], [], (.cons (.asg 32 (.lst .nil)) (.cons (.for1 .str 31 (.loc 8) (.cons (.asg 30 (.bi .ord (.cons (.loc 31) .nil))) (.cons (.ife (.cmp .lt true (.loc 30) (.lit (.int 65536))) (.cons (.ex (.callB .append (.loc 32) (.cons (.bin .add (.lit (.int 55296)) (.bin .fdiv (.bin .sub (.loc 30) (.lit (.int 65536))) (.lit (.int 1024)))) .nil))) (.cons (.ex (.callB .append (.loc 32) (.cons (.bin .add (.lit (.int 56320)) (.bin .mod (.bin .sub (.loc 30) (.lit (.int 65536))) (.lit (.int 1024)))) .nil))) .nil)) (.cons (.ex (.callB .append (.loc 32) (.cons (.loc 30) .nil))) .nil)) .nil))) (.cons (.ret (.loc 32)) .nil))), false⟩
noncomputable def f430 : Fn := ⟨[32], [], (.cons (.asg 33 (.lst .nil)) (.cons (.asg 1 (.lit (.int 0))) (.cons (.whl (.cmp .lt false (.loc 1) (.bi .lenL (.cons (.loc 32) .nil))) (.cons (.asg 34 (.idx .lst (.loc 32) (.loc 1))) (.cons (.asg 1 (.bin .add (.loc 1) (.lit (.int 1)))) (.cons (.ife (.and (.cons (.cmp2 .le .lt (.lit (.int 55296)) (.loc 34) (.lit (.int 56320))) (.cons (.cmp .lt false (.loc 1) (.bi .lenL (.cons (.loc 32) .nil))) (.cons (.cmp2 .le .lt (.lit (.int 56320)) (.idx .lst (.loc 32) (.loc 1)) (.lit (.int 57344))) .nil)))) (.cons (.ex (.callB .append (.loc 33) (.cons (.bi .chr (.cons (.bin .sub (.bin .add (.bin .add (.lit (.int 65536)) (.bin .mul (.bin .sub (.loc 34) (.lit (.int 55296))) (.lit (.int 1024)))) (.idx .lst (.loc 32) (.loc 1))) (.lit (.int 56320))) .nil)) .nil))) (.cons (.asg 1 (.bin .add (.loc 1) (.lit (.int 1)))) .nil)) (.cons (.ife (.cmp2 .le .lt (.lit (.int 55296)) (.loc 34) (.lit (.int 57344))) (.cons (.ex (.callB .append (.loc 33) (.cons (.bi .chr (.cons (.lit (.int 65533)) .nil)) .nil))) .nil) (.cons (.ex (.callB .append (.loc 33) (.cons (.bi .chr (.cons (.loc 34) .nil)) .nil))) .nil)) .nil)) .nil)))) (.cons (.ret (.callB .join (.lit (.str "")) (.cons (.loc 33) .nil))) .nil)))), false⟩
noncomputable def f435 : Fn := ⟨[8], [], (.cons (.asg 10 (.comp .str (.callF 416 (.cons (.bi .ord (.cons (.loc 31) .nil)) .nil)) [31] (.loc 8) none)) (.cons (.ife (.and (.cons (.cmp .inL true (.neg (.lit (.int 1))) (.loc 10)) (.cons (.cmp .ints true (.pre (.loc 10) (.lit (.int 2))) (.lst (.cons (.lit (.int 254)) (.cons (.lit (.int 255)) .nil)))) .nil))) (.cons (.ret (.bi .bytesL (.cons (.loc 10) .nil))) .nil) .nil) (.cons (.asg 35 (.lst .nil)) (.cons (.for1 .lst 34 (.callF 423 (.cons (.loc 8) .nil)) (.cons (.ex (.callB .append (.loc 35) (.cons (.bin .fdiv (.loc 34) (.lit (.int 256))) .nil))) (.cons (.ex (.callB .append (.loc 35) (.cons (.bin .mod (.loc 34) (.lit (.int 256))) .nil))) .nil))) (.cons (.ret (.bin .addB (.lit (.bytes [254, 255])) (.bi .bytesL (.cons (.loc 35) .nil)))) .nil))))), false⟩
noncomputable def f440 : Fn := ⟨[10], [], (.cons (.ife (.not (.callB .starts (.loc 10) (.cons (.lit (.bytes [254, 255])) .nil))) (.cons (.ret (.callB .join (.lit (.str "")) (.cons (.comp .byt (.bi .chr (.cons (.callF 409 (.cons (.loc 29) .nil)) .nil)) [29] (.loc 10) none) .nil))) .nil) .nil) (.cons (.asg 32 (.comp .rng (.bin .add (.bin .mul (.idx .byt (.up 10) (.loc 1)) (.lit (.int 256))) (.idx .byt (.up 10) (.bin .add (.loc 1) (.lit (.int 1))))) [1] (.bi .range3 (.cons (.lit (.int 2)) (.cons (.bin .sub (.bi .lenB (.cons (.loc 10) .nil)) (.lit (.int 1))) (.cons (.lit (.int 2)) .nil)))) none)) (.cons (.ret (.bin .addS (.callF 430 (.cons (.loc 32) .nil)) (.ite (.cmp .eqI false (.bin .mod (.bi .lenB (.cons (.loc 10) .nil)) (.lit (.int 2))) (.lit (.int 1))) (.bi .chr (.cons (.lit (.int 65533)) .nil)) (.lit (.str ""))))) .nil))), false⟩
noncomputable def f447 : Fn := ⟨[37], [], (.cons (.asg 38 (.lit (.int 0))) (.cons (.for1 .lst 36 (.loc 37) (.cons (.asg 38 (.bin .add (.loc 38) (.lit (.int 1)))) (.cons (.ife (.attr (.loc 36) 9) (.cons (.asg 38 (.bin .add (.loc 38) (.callF 447 (.cons (.attr (.loc 36) 10) .nil)))) .nil) .nil) .nil))) (.cons (.ret (.loc 38)) .nil))), false⟩
noncomputable def f452 : Fn := ⟨[43, 37, 42, 40], [], (.cons (.ife (.cmp .le true (.loc 40) (.lit (.int 20))) (.cons (.raise 0) .nil) .nil) (.cons (.asg 4 (.comp .lst (.callO 4 4 (.up 43) (.cons (.dct [] .nil) .nil)) [36] (.loc 37) none)) (.cons (.for1 .rng 1 (.bi .range1 (.cons (.bi .lenL (.cons (.loc 37) .nil)) .nil)) (.cons (.asg 36 (.idx .lst (.loc 37) (.loc 1))) (.cons (.asg 41 (.dct [(.s "Title"), (.s "Parent")] (.cons (.new 1 (.cons (.callF 435 (.cons (.attr (.loc 36) 7) .nil)) .nil)) (.cons (.loc 42) .nil)))) (.cons (.ife (.cmp .le true (.loc 1) (.lit (.int 0))) (.cons (.asgIdx .dct (.loc 41) (.lit (.str "Prev")) (.idx .lst (.loc 4) (.bin .sub (.loc 1) (.lit (.int 1))))) .nil) .nil) (.cons (.ife (.cmp .lt false (.bin .add (.loc 1) (.lit (.int 1))) (.bi .lenL (.cons (.loc 4) .nil))) (.cons (.asgIdx .dct (.loc 41) (.lit (.str "Next")) (.idx .lst (.loc 4) (.bin .add (.loc 1) (.lit (.int 1))))) .nil) .nil) (.cons (.ife (.cmp .le true (.bi .lenL (.cons (.attr (.loc 36) 10) .nil)) (.lit (.int 0))) (.cons (.ex (.callF 459 (.cons (.loc 41) (.cons (.callF 452 (.cons (.loc 43) (.cons (.attr (.loc 36) 10) (.cons (.idx .lst (.loc 4) (.loc 1)) (.cons (.bin .add (.loc 40) (.lit (.int 1))) .nil))))) .nil)))) (.cons (.asg 39 (.callF 447 (.cons (.attr (.loc 36) 10) .nil))) (.cons (.asgIdx .dct (.loc 41) (.lit (.str "Count")) (.ite (.attr (.loc 36) 9) (.loc 39) (.neg (.loc 39)))) .nil))) .nil) (.cons (.ife (.cmp .isNone true (.attr (.loc 36) 8) (.lit .nil)) (.cons (.asgIdx .dct (.loc 41) (.lit (.str "Dest")) (.attr (.loc 36) 8)) .nil) .nil) (.cons (.ex (.callO 4 3 (.loc 43) (.cons (.attr (.idx .lst (.loc 4) (.loc 1)) 3) (.cons (.attr (.idx .lst (.loc 4) (.loc 1)) 4) (.cons (.loc 41) .nil))))) .nil)))))))) (.cons (.ret (.loc 4)) .nil)))), false⟩
noncomputable def f459 : Fn := ⟨[41, 4], [], (.cons (.asgIdx .dct (.loc 41) (.lit (.str "First")) (.idx .lst (.loc 4) (.lit (.int 0)))) (.cons (.asgIdx .dct (.loc 41) (.lit (.str "Last")) (.idx .lst (.loc 4) (.neg (.lit (.int 1))))) .nil)), false⟩
noncomputable def f466 : Fn := ⟨[43, 37], [], (.cons (.asg 44 (.callO 4 4 (.loc 43) (.cons (.dct [] .nil) .nil))) (.cons (.asg 11 (.dct [(.s "Type")] (.cons (.new 0 (.cons (.lit (.str "Outlines")) .nil)) .nil))) (.cons (.ife (.cmp .le true (.bi .lenL (.cons (.loc 37) .nil)) (.lit (.int 0))) (.cons (.ex (.callF 459 (.cons (.loc 11) (.cons (.callF 452 (.cons (.loc 43) (.cons (.loc 37) (.cons (.loc 44) (.cons (.lit (.int 1)) .nil))))) .nil)))) (.cons (.asgIdx .dct (.loc 11) (.lit (.str "Count")) (.callF 447 (.cons (.loc 37) .nil))) .nil)) .nil) (.cons (.ex (.callO 4 3 (.loc 43) (.cons (.attr (.loc 44) 3) (.cons (.attr (.loc 44) 4) (.cons (.loc 11) .nil))))) (.cons (.ret (.loc 44)) .nil))))), false⟩
noncomputable def f473 : Fn := ⟨[43, 41], [], (.cons (.ife (.cmp .inD false (.lit (.str "Dest")) (.loc 41)) (.cons (.ret (.idx .dct (.loc 41) (.lit (.str "Dest")))) .nil) .nil) (.cons (.asg 45 (.callO 4 2 (.loc 43) (.cons (.loc 41) (.cons (.lit (.str "A")) .nil)))) (.cons (.ife (.isin (.loc 45) (.dict)) (.cons (.asg 46 (.callO 4 2 (.loc 43) (.cons (.loc 45) (.cons (.lit (.str "S")) .nil)))) (.cons (.ife (.and (.cons (.isin (.loc 46) (.cls 183)) (.cons (.cmp .eqS false (.attr (.loc 46) 0) (.lit (.str "GoTo"))) .nil))) (.cons (.ret (.callB .get1 (.loc 45) (.cons (.lit (.str "D")) .nil))) .nil) .nil) .nil)) .nil) (.cons (.ret (.lit .nil)) .nil)))), false⟩
noncomputable def f480 : Fn := ⟨[43, 41], [], (.cons (.asg 26 (.callO 4 2 (.loc 43) (.cons (.loc 41) (.cons (.lit (.str "Title")) .nil)))) (.cons (.ret (.ite (.isin (.loc 26) (.cls 205)) (.callF 440 (.cons (.attr (.loc 26) 1) .nil)) (.lit (.str "")))) .nil)), false⟩
noncomputable def f487 : Fn := ⟨[43, 41], [], (.cons (.asg 39 (.callO 4 2 (.loc 43) (.cons (.loc 41) (.cons (.lit (.str "Count")) .nil)))) (.cons (.ret (.ite (.and (.cons (.isin (.loc 39) (.int)) (.cons (.not (.isin (.loc 39) (.bool))) .nil))) (.loc 39) (.lit (.int 0)))) .nil)), false⟩
noncomputable def f494 : Fn := ⟨[43, 47, 48, 40], [], (.cons (.asg 19 (.lst .nil)) (.cons (.asg 13 (.loc 47)) (.cons (.whl (.cmp .isNone true (.callO 4 1 (.loc 43) (.cons (.loc 13) .nil)) (.lit .nil)) (.cons (.ife (.cmp .le true (.loc 40) (.lit (.int 20))) (.cons (.raise 0) .nil) .nil) (.cons (.asg 41 (.callO 4 1 (.loc 43) (.cons (.loc 13) .nil))) (.cons (.ife (.not (.isin (.loc 41) (.dict))) (.cons (.raise 0) .nil) .nil) (.cons (.ife (.isin (.loc 13) (.cls 254)) (.cons (.ife (.cmp .inD false (.tup (.cons (.attr (.loc 13) 3) (.cons (.attr (.loc 13) 4) .nil))) (.loc 48)) (.cons (.raise 0) .nil) .nil) (.cons (.asgIdx .dct (.loc 48) (.tup (.cons (.attr (.loc 13) 3) (.cons (.attr (.loc 13) 4) .nil))) (.lit (.bool true))) .nil)) .nil) (.cons (.asg 24 (.callF 494 (.cons (.loc 43) (.cons (.callB .get1 (.loc 41) (.cons (.lit (.str "First")) .nil)) (.cons (.loc 48) (.cons (.bin .add (.loc 40) (.lit (.int 1))) .nil)))))) (.cons (.ex (.callB .append (.loc 19) (.cons (.new 3 (.cons (.callF 480 (.cons (.loc 43) (.cons (.loc 41) .nil))) (.cons (.callF 473 (.cons (.loc 43) (.cons (.loc 41) .nil))) (.cons (.cmp .le true (.callF 487 (.cons (.loc 43) (.cons (.loc 41) .nil))) (.lit (.int 0))) (.cons (.loc 24) .nil))))) .nil))) (.cons (.asg 13 (.callB .get1 (.loc 41) (.cons (.lit (.str "Next")) .nil))) .nil)))))))) (.cons (.ret (.loc 19)) .nil)))), false⟩
noncomputable def f501 : Fn := ⟨[43], [], (.cons (.asg 11 (.callO 4 2 (.loc 43) (.cons (.callO 4 6 (.loc 43) .nil) (.cons (.lit (.str "Outlines")) .nil)))) (.cons (.ret (.ite (.isin (.loc 11) (.dict)) (.loc 11) (.dct [] .nil))) .nil)), false⟩
noncomputable def f508 : Fn := ⟨[43], [], (.cons (.ret (.callF 494 (.cons (.loc 43) (.cons (.callB .get1 (.callF 501 (.cons (.loc 43) .nil)) (.cons (.lit (.str "First")) .nil)) (.cons (.dct [] .nil) (.cons (.lit (.int 1)) .nil)))))) .nil), false⟩
noncomputable def f515 : Fn := ⟨[13, 49], [], (.cons (.ife (.or (.cons (.cmp .isNone false (.loc 13) (.lit .nil)) (.cons (.cmp .isNone false (.loc 49) (.lit .nil)) .nil))) (.cons (.ret (.and (.cons (.cmp .isNone false (.loc 13) (.lit .nil)) (.cons (.cmp .isNone false (.loc 49) (.lit .nil)) .nil)))) .nil) .nil) (.cons (.ret (.and (.cons (.isin (.loc 13) (.cls 254)) (.cons (.cmp .sameT false (.tup (.cons (.attr (.loc 13) 3) (.cons (.attr (.loc 13) 4) .nil))) (.tup (.cons (.attr (.loc 49) 3) (.cons (.attr (.loc 49) 4) .nil)))) .nil)))) .nil)), false⟩
noncomputable def f529 : Fn := ⟨[2, 43], [], (.cons (.asgAttr (.loc 2) 11 (.loc 43)) (.cons (.asgAttr (.loc 2) 12 (.lst .nil)) (.cons (.asgAttr (.loc 2) 13 (.dct [] .nil)) .nil))), false⟩
noncomputable def f536 : Fn := ⟨[2, 49, 3], [], (.cons (.ex (.callB .append (.attr (.loc 2) 12) (.cons (.bin .addS (.bin .addS (.loc 49) (.lit (.str ": "))) (.loc 3)) .nil))) .nil), false⟩
noncomputable def f543 : Fn := ⟨[2, 13, 49], [], (.cons (.ife (.cmp .lt true (.callB .count (.loc 49) (.cons (.lit (.str ".")) .nil)) (.lit (.int 20))) (.cons (.ex (.callO 5 7 (.loc 2) (.cons (.loc 49) (.cons (.lit (.str "too deep")) .nil)))) (.cons (.ret (.lit (.bool false))) .nil)) .nil) (.cons (.ife (.or (.cons (.not (.isin (.loc 13) (.cls 254))) (.cons (.not (.isin (.callO 4 1 (.attr (.loc 2) 11) (.cons (.loc 13) .nil)) (.dict))) .nil))) (.cons (.ex (.callO 5 7 (.loc 2) (.cons (.loc 49) (.cons (.lit (.str "no item")) .nil)))) (.cons (.ret (.lit (.bool false))) .nil)) .nil) (.cons (.ife (.cmp .inD false (.tup (.cons (.attr (.loc 13) 3) (.cons (.attr (.loc 13) 4) .nil))) (.attr (.loc 2) 13)) (.cons (.ex (.callO 5 7 (.loc 2) (.cons (.loc 49) (.cons (.lit (.str "met before")) .nil)))) (.cons (.ret (.lit (.bool false))) .nil)) .nil) (.cons (.asgIdx .dct (.attr (.loc 2) 13) (.tup (.cons (.attr (.loc 13) 3) (.cons (.attr (.loc 13) 4) .nil))) (.lit (.bool true))) (.cons (.ret (.lit (.bool true))) .nil))))), false⟩
noncomputable def f550 : Fn := ⟨[2, 11, 51, 49], [], (.cons (.asg 38 (.lit (.int 0))) (.cons (.asg 50 (.lit .nil)) (.cons (.asg 13 (.callB .get1 (.loc 11) (.cons (.lit (.str "First")) .nil))) (.cons (.asg 1 (.lit (.int 0))) (.cons (.whl (.cmp .isNone true (.loc 13) (.lit .nil)) (.cons (.asg 20 (.ite (.cmp .eqS false (.loc 49) (.lit (.str "root"))) (.bi .str (.cons (.loc 1) .nil)) (.bin .addS (.bin .addS (.loc 49) (.lit (.str "."))) (.bi .str (.cons (.loc 1) .nil))))) (.cons (.ife (.not (.callO 5 8 (.loc 2) (.cons (.loc 13) (.cons (.loc 20) .nil)))) (.cons .brk .nil) .nil) (.cons (.asg 38 (.bin .add (.loc 38) (.callO 5 10 (.loc 2) (.cons (.loc 13) (.cons (.loc 51) (.cons (.loc 50) (.cons (.loc 20) .nil))))))) (.cons (.asg 50 (.loc 13)) (.cons (.asg 13 (.callB .get1 (.callO 4 1 (.attr (.loc 2) 11) (.cons (.loc 13) .nil)) (.cons (.lit (.str "Next")) .nil))) (.cons (.asg 1 (.bin .add (.loc 1) (.lit (.int 1)))) .nil))))))) (.cons (.ife (.not (.callF 515 (.cons (.callB .get1 (.loc 11) (.cons (.lit (.str "Last")) .nil)) (.cons (.loc 50) .nil)))) (.cons (.ex (.callO 5 7 (.loc 2) (.cons (.loc 49) (.cons (.lit (.str "wrong Last")) .nil)))) .nil) .nil) (.cons (.ret (.loc 38)) .nil))))))), false⟩
noncomputable def f557 : Fn := ⟨[2, 13, 51, 50, 49], [], (.cons (.asg 41 (.callO 4 1 (.attr (.loc 2) 11) (.cons (.loc 13) .nil))) (.cons (.ife (.not (.isin (.callO 4 2 (.attr (.loc 2) 11) (.cons (.loc 41) (.cons (.lit (.str "Title")) .nil))) (.cls 205))) (.cons (.ex (.callO 5 7 (.loc 2) (.cons (.loc 49) (.cons (.lit (.str "no Title")) .nil)))) .nil) .nil) (.cons (.ife (.not (.callF 515 (.cons (.callB .get1 (.loc 41) (.cons (.lit (.str "Parent")) .nil)) (.cons (.loc 51) .nil)))) (.cons (.ex (.callO 5 7 (.loc 2) (.cons (.loc 49) (.cons (.lit (.str "wrong Parent")) .nil)))) .nil) .nil) (.cons (.ife (.not (.callF 515 (.cons (.callB .get1 (.loc 41) (.cons (.lit (.str "Prev")) .nil)) (.cons (.loc 50) .nil)))) (.cons (.ex (.callO 5 7 (.loc 2) (.cons (.loc 49) (.cons (.lit (.str "wrong Prev")) .nil)))) .nil) .nil) (.cons (.asg 52 (.callO 5 9 (.loc 2) (.cons (.loc 41) (.cons (.loc 13) (.cons (.loc 49) .nil))))) (.cons (.asg 39 (.callF 487 (.cons (.attr (.loc 2) 11) (.cons (.loc 41) .nil)))) (.cons (.ife (.cmp .eqI true (.bi .abs (.cons (.loc 39) .nil)) (.loc 52)) (.cons (.ex (.callO 5 7 (.loc 2) (.cons (.loc 49) (.cons (.lit (.str "wrong Count")) .nil)))) .nil) .nil) (.cons (.ret (.bin .add (.lit (.int 1)) (.ite (.cmp .le true (.loc 39) (.lit (.int 0))) (.loc 52) (.lit (.int 0))))) .nil)))))))), false⟩
noncomputable def f571 : Fn := ⟨[43], [], (.cons (.asg 53 (.new 5 (.cons (.loc 43) .nil))) (.cons (.asg 11 (.callF 501 (.cons (.loc 43) .nil))) (.cons (.asg 38 (.callO 5 9 (.loc 53) (.cons (.loc 11) (.cons (.callB .get1 (.callO 4 6 (.loc 43) .nil) (.cons (.lit (.str "Outlines")) .nil)) (.cons (.lit (.str "root")) .nil))))) (.cons (.ife (.cmp .eqI true (.callF 487 (.cons (.loc 43) (.cons (.loc 11) .nil))) (.loc 38)) (.cons (.ex (.callO 5 7 (.loc 53) (.cons (.lit (.str "root")) (.cons (.lit (.str "wrong Count")) .nil)))) .nil) .nil) (.cons (.ret (.attr (.loc 53) 12)) .nil))))), false⟩
noncomputable def f579 : Fn := ⟨[56, 55], [], (.cons (.ife (.cmp .eqI false (.bi .lenL (.cons (.loc 56) .nil)) (.lit (.int 0))) (.cons (.ret (.lit (.int 0))) .nil) .nil) (.cons (.asg 54 (.bin .mod (.idx .lst (.loc 56) (.lit (.int 0))) (.loc 55))) (.cons (.asgIdx .lst (.loc 56) (.lit (.int 0)) (.bin .fdiv (.idx .lst (.loc 56) (.lit (.int 0))) (.loc 55))) (.cons (.ife (.cmp .eqI false (.idx .lst (.loc 56) (.lit (.int 0))) (.lit (.int 0))) (.cons (.ex (.callB .pop (.loc 56) (.cons (.lit (.int 0)) .nil))) .nil) .nil) (.cons (.ret (.loc 54)) .nil))))), false⟩
noncomputable def f586 : Fn := ⟨[56, 40], [], (.cons (.asg 19 (.lst .nil)) (.cons (.for1 .rng 57 (.bi .range1 (.cons (.callF 579 (.cons (.loc 56) (.cons (.bin .sub (.lit (.int 5)) (.loc 40)) .nil))) .nil)) (.cons (.asg 26 (.idx .tup (.lit (.tup (titles.map .str))) (.callF 579 (.cons (.loc 56) (.cons (.lit (.int 10)) .nil))))) (.cons (.asg 25 (.idx .tup (.tup (.cons (.lit .nil) (.cons (.new 0 (.cons (.lit (.str "d")) .nil)) (.cons (.lst (.cons (.new 2 (.cons (.lit (.int 1)) (.cons (.lit (.int 0)) .nil))) (.cons (.new 0 (.cons (.lit (.str "Fit")) .nil)) .nil))) (.cons (.new 1 (.cons (.lit (.bytes [110])) .nil)) .nil))))) (.callF 579 (.cons (.loc 56) (.cons (.lit (.int 4)) .nil))))) (.cons (.asg 23 (.cmp .eqI false (.callF 579 (.cons (.loc 56) (.cons (.lit (.int 2)) .nil))) (.lit (.int 1)))) (.cons (.ex (.callB .append (.loc 19) (.cons (.new 3 (.cons (.loc 26) (.cons (.loc 25) (.cons (.loc 23) (.cons (.ite (.cmp .lt false (.loc 40) (.lit (.int 3))) (.callF 586 (.cons (.loc 56) (.cons (.bin .add (.loc 40) (.lit (.int 1))) .nil))) (.lst .nil)) .nil))))) .nil))) .nil))))) (.cons (.ret (.loc 19)) .nil))), false⟩
noncomputable def f591 : Fn := ⟨[37], [], (.cons (.ret (.bi .sum (.cons (.comp .lst (.bin .add (.lit (.int 1)) (.ite (.attr (.loc 58) 9) (.callF 591 (.cons (.attr (.loc 58) 10) .nil)) (.lit (.int 0)))) [58] (.loc 37) none) .nil))) .nil), false⟩
noncomputable def f598 : Fn := ⟨[59, 55], [], (.cons (.asg 19 (.lst .nil)) (.cons (.asg 7 (.lit (.int 1))) (.cons (.whl (.cmp .lt false (.bi .lenL (.cons (.loc 19) .nil)) (.loc 55)) (.cons (.ife (.cmp .inL true (.loc 7) (.loc 59)) (.cons (.ex (.callB .append (.loc 19) (.cons (.loc 7) .nil))) (.cons (.ex (.callB .append (.loc 59) (.cons (.loc 7) .nil))) .nil)) .nil) (.cons (.asg 7 (.bin .add (.loc 7) (.lit (.int 1)))) .nil))) (.cons (.ret (.loc 19)) .nil)))), false⟩
noncomputable def f605 : Fn := ⟨[37, 42, 59, 60], [], (.cons (.asg 61 (.callF 598 (.cons (.loc 59) (.cons (.bi .lenL (.cons (.loc 37) .nil)) .nil)))) (.cons (.for1 .rng 1 (.bi .range1 (.cons (.bi .lenL (.cons (.loc 37) .nil)) .nil)) (.cons (.asg 58 (.idx .lst (.loc 37) (.loc 1))) (.cons (.asg 22 (.lst (.cons (.tup (.cons (.lit (.str "Title")) (.cons (.new 1 (.cons (.callF 435 (.cons (.attr (.loc 58) 7) .nil)) .nil)) .nil))) (.cons (.tup (.cons (.lit (.str "Parent")) (.cons (.new 2 (.cons (.loc 42) (.cons (.lit (.int 0)) .nil))) .nil))) .nil)))) (.cons (.ife (.cmp .le true (.loc 1) (.lit (.int 0))) (.cons (.ex (.callB .append (.loc 22) (.cons (.tup (.cons (.lit (.str "Prev")) (.cons (.new 2 (.cons (.idx .lst (.loc 61) (.bin .sub (.loc 1) (.lit (.int 1)))) (.cons (.lit (.int 0)) .nil))) .nil))) .nil))) .nil) .nil) (.cons (.ife (.cmp .lt false (.bin .add (.loc 1) (.lit (.int 1))) (.bi .lenL (.cons (.loc 61) .nil))) (.cons (.ex (.callB .append (.loc 22) (.cons (.tup (.cons (.lit (.str "Next")) (.cons (.new 2 (.cons (.idx .lst (.loc 61) (.bin .add (.loc 1) (.lit (.int 1)))) (.cons (.lit (.int 0)) .nil))) .nil))) .nil))) .nil) .nil) (.cons (.ife (.cmp .isNone true (.attr (.loc 58) 8) (.lit .nil)) (.cons (.ex (.callB .append (.loc 22) (.cons (.tup (.cons (.lit (.str "Dest")) (.cons (.attr (.loc 58) 8) .nil))) .nil))) .nil) .nil) (.cons (.asg 24 (.callF 605 (.cons (.attr (.loc 58) 10) (.cons (.idx .lst (.loc 61) (.loc 1)) (.cons (.loc 59) (.cons (.loc 60) .nil)))))) (.cons (.ife (.cmp .le true (.bi .lenL (.cons (.loc 24) .nil)) (.lit (.int 0))) (.cons (.asg 48 (.callF 591 (.cons (.attr (.loc 58) 10) .nil))) (.cons (.asg 22 (.bin .addL (.loc 22) (.lst (.cons (.tup (.cons (.lit (.str "First")) (.cons (.new 2 (.cons (.idx .lst (.loc 24) (.lit (.int 0))) (.cons (.lit (.int 0)) .nil))) .nil))) (.cons (.tup (.cons (.lit (.str "Last")) (.cons (.new 2 (.cons (.idx .lst (.loc 24) (.neg (.lit (.int 1)))) (.cons (.lit (.int 0)) .nil))) .nil))) (.cons (.tup (.cons (.lit (.str "Count")) (.cons (.ite (.attr (.loc 58) 9) (.loc 48) (.neg (.loc 48))) .nil))) .nil)))))) .nil)) .nil) (.cons (.asgIdx .dct (.loc 60) (.idx .lst (.loc 61) (.loc 1)) (.bi .dict (.cons (.loc 22) .nil))) .nil))))))))) (.cons (.ret (.loc 61)) .nil))), false⟩
noncomputable def f612 : Fn := ⟨[58, 63], [], (.cons (.ife (.cmp .eqI true (.bi .lenL (.cons (.loc 58) .nil)) (.bi .lenL (.cons (.loc 63) .nil))) (.cons (.ret (.lit (.bool false))) .nil) .nil) (.cons (.for1 .rng 1 (.bi .range1 (.cons (.bi .lenL (.cons (.loc 58) .nil)) .nil)) (.cons (.asg2 62 64 (.tup (.cons (.idx .lst (.loc 58) (.loc 1)) (.cons (.idx .lst (.loc 63) (.loc 1)) .nil)))) (.cons (.ife (.cmp .sameT true (.tup (.cons (.attr (.loc 62) 7) (.cons (.attr (.loc 62) 9) (.cons (.callF 277 (.cons (.attr (.loc 62) 8) .nil)) .nil)))) (.tup (.cons (.attr (.loc 64) 7) (.cons (.attr (.loc 64) 9) (.cons (.callF 277 (.cons (.attr (.loc 64) 8) .nil)) .nil))))) (.cons (.ret (.lit (.bool false))) .nil) .nil) (.cons (.ife (.not (.callF 612 (.cons (.attr (.loc 62) 10) (.cons (.attr (.loc 64) 10) .nil)))) (.cons (.ret (.lit (.bool false))) .nil) .nil) .nil)))) (.cons (.ret (.lit (.bool true))) .nil))), false⟩
noncomputable def f619 : Fn := ⟨[], [], (.cons (.asg 43 (.new 4 (.cons (.dct [(.i 4), (.i 5)] (.cons (.tup (.cons (.lit (.int 0)) (.cons (.dct [(.s "S"), (.s "D")] (.cons (.new 2 (.cons (.lit (.int 5)) (.cons (.lit (.int 0)) .nil))) (.cons (.new 0 (.cons (.lit (.str "x")) .nil)) .nil))) .nil))) (.cons (.tup (.cons (.lit (.int 0)) (.cons (.new 0 (.cons (.lit (.str "GoTo")) .nil)) .nil))) .nil))) (.cons (.dct [] .nil) .nil)))) (.cons (.ife (.or (.cons (.cmp .sameT true (.callF 277 (.cons (.callF 473 (.cons (.loc 43) (.cons (.dct [(.s "A")] (.cons (.new 2 (.cons (.lit (.int 4)) (.cons (.lit (.int 0)) .nil))) .nil)) .nil))) .nil)) (.tup (.cons (.lit (.str "name")) (.cons (.lit (.str "x")) .nil)))) (.cons (.cmp .isNone true (.callF 473 (.cons (.loc 43) (.cons (.dct [] .nil) .nil))) (.lit .nil)) .nil))) (.cons (.ret (.lit (.bool false))) .nil) .nil) (.cons (.ife (.cmp .sameT true (.callF 277 (.cons (.callF 473 (.cons (.loc 43) (.cons (.dct [(.s "Dest"), (.s "A")] (.cons (.lit (.int 5)) (.cons (.new 2 (.cons (.lit (.int 4)) (.cons (.lit (.int 0)) .nil))) .nil))) .nil))) .nil)) (.tup (.cons (.lit (.str "int")) (.cons (.lit (.int 5)) .nil)))) (.cons (.ret (.lit (.bool false))) .nil) .nil) (.cons (.ret (.and (.cons (.cmp .isNone false (.callF 473 (.cons (.loc 43) (.cons (.dct [(.s "A")] (.cons (.dct [(.s "S"), (.s "D")] (.cons (.new 0 (.cons (.lit (.str "URI")) .nil)) (.cons (.lit (.int 1)) .nil))) .nil)) .nil))) (.lit .nil)) (.cons (.cmp .isNone false (.callF 473 (.cons (.loc 43) (.cons (.dct [(.s "A")] (.cons (.dct [(.s "S"), (.s "D")] (.cons (.lit (.str "GoTo")) (.cons (.lit (.int 1)) .nil))) .nil)) .nil))) (.lit .nil)) .nil)))) .nil)))), false⟩
noncomputable def f626 : Fn := ⟨[55], [], (.cons (.asg 43 (.new 4 .nil)) (.cons (.asg 35 (.lst (.cons (.new 3 (.cons (.lit (.str "x")) .nil)) .nil))) (.cons (.for1 .rng 57 (.bi .range1 (.cons (.bin .sub (.loc 55) (.lit (.int 1))) .nil)) (.cons (.asg 35 (.lst (.cons (.new 3 (.cons (.lit (.str "x")) (.cons (.lit .nil) (.cons (.lit (.bool true)) (.cons (.loc 35) .nil))))) .nil))) .nil)) (.cons (.tryx (some 44) (.callF 466 (.cons (.loc 43) (.cons (.loc 35) .nil))) .nil 0 (.cons (.ret (.cmp .le true (.loc 55) (.lit (.int 20)))) .nil)) (.cons (.asgIdx .dct (.attr (.loc 43) 6) (.lit (.str "Root")) (.dct [(.s "Outlines")] (.cons (.loc 44) .nil))) (.cons (.ife (.or (.cons (.cmp .le true (.loc 55) (.lit (.int 20))) (.cons (.not (.callF 612 (.cons (.callF 508 (.cons (.loc 43) .nil)) (.cons (.loc 35) .nil)))) (.cons (.cmp .sameL true (.callF 571 (.cons (.loc 43) .nil)) (.lst .nil)) .nil)))) (.cons (.ret (.lit (.bool false))) .nil) .nil) (.cons (.ife (.cmp .lt false (.loc 55) (.lit (.int 20))) (.cons (.ret (.lit (.bool true))) .nil) .nil) (.cons (.asgIdx .dct (.idx .tup (.idx .dct (.attr (.loc 43) 5) (.lit (.int 21))) (.lit (.int 1))) (.lit (.str "First")) (.callO 4 4 (.loc 43) (.cons (.dct [(.s "Title"), (.s "Parent")] (.cons (.new 1 (.cons (.lit (.bytes [])) .nil)) (.cons (.new 2 (.cons (.lit (.int 21)) (.cons (.lit (.int 0)) .nil))) .nil))) .nil))) (.cons (.tryx none (.callF 508 (.cons (.loc 43) .nil)) (.cons (.ret (.lit (.bool false))) .nil) 0 (.cons (.ret (.cmp .sameL false (.callF 571 (.cons (.loc 43) .nil)) (.lst (.cons (.bin .addS (.bin .addS (.lit (.str "0")) (.bin .mulS (.lit (.str ".0")) (.lit (.int 20)))) (.lit (.str ": too deep"))) .nil)))) .nil)) .nil))))))))), false⟩
noncomputable def f631 : Fn := ⟨[66], [], (.cons (.asg 56 (.comp .lst (.bin .mod (.bi .abs (.cons (.loc 7) .nil)) (.bin .pow (.lit (.int 10)) (.lit (.int 80)))) [7] (.pre (.loc 66) (.lit (.int 24))) none)) (.cons (.asg 37 (.callF 586 (.cons (.loc 56) (.cons (.lit (.int 1)) .nil)))) (.cons (.asg 43 (.new 4 .nil)) (.cons (.for1 .rng 57 (.bi .range1 (.cons (.callF 579 (.cons (.loc 56) (.cons (.lit (.int 5)) .nil))) .nil)) (.cons (.ex (.callO 4 3 (.loc 43) (.cons (.bin .add (.lit (.int 1)) (.callF 579 (.cons (.loc 56) (.cons (.lit (.int 9)) .nil)))) (.cons (.lit (.int 0)) (.cons (.loc 57) .nil))))) .nil)) (.cons (.asg 59 (.callO 4 5 (.loc 43) .nil)) (.cons (.asg 50 (.comp .lst (.tup (.cons (.loc 7) (.cons (.callF 277 (.cons (.idx .tup (.idx .dct (.attr (.up 43) 5) (.loc 7)) (.lit (.int 1))) .nil)) .nil))) [7] (.loc 59) none)) (.cons (.asg 44 (.callF 466 (.cons (.loc 43) (.cons (.loc 37) .nil)))) (.cons (.asg 60 (.dct [] .nil)) (.cons (.asg 49 (.idx .lst (.callF 598 (.cons (.loc 59) (.cons (.lit (.int 1)) .nil))) (.lit (.int 0)))) (.cons (.asg 61 (.callF 605 (.cons (.loc 37) (.cons (.loc 49) (.cons (.loc 59) (.cons (.loc 60) .nil)))))) (.cons (.asg 11 (.dct [(.s "Type")] (.cons (.new 0 (.cons (.lit (.str "Outlines")) .nil)) .nil))) (.cons (.ife (.cmp .le true (.bi .lenL (.cons (.loc 61) .nil)) (.lit (.int 0))) (.cons (.asg 11 (.dct [(.s "Type"), (.s "First"), (.s "Last"), (.s "Count")] (.cons (.new 0 (.cons (.lit (.str "Outlines")) .nil)) (.cons (.new 2 (.cons (.idx .lst (.loc 61) (.lit (.int 0))) (.cons (.lit (.int 0)) .nil))) (.cons (.new 2 (.cons (.idx .lst (.loc 61) (.neg (.lit (.int 1)))) (.cons (.lit (.int 0)) .nil))) (.cons (.callF 591 (.cons (.loc 37) .nil)) .nil)))))) .nil) .nil) (.cons (.asgIdx .dct (.loc 60) (.loc 49) (.loc 11)) (.cons (.ife (.or (.cons (.cmp .sameT true (.callO 2 0 (.loc 44) .nil) (.tup (.cons (.loc 49) (.cons (.lit (.int 0)) .nil)))) (.cons (.cmp .sameL true (.callO 4 5 (.loc 43) .nil) (.bi .sortL (.cons (.loc 59) .nil))) .nil))) (.cons (.ret (.lit (.bool false))) .nil) .nil) (.cons (.for1 .dct 7 (.loc 60) (.cons (.ife (.or (.cons (.cmp .eqI true (.idx .tup (.idx .dct (.attr (.loc 43) 5) (.loc 7)) (.lit (.int 0))) (.lit (.int 0))) (.cons (.cmp .sameT true (.callF 277 (.cons (.idx .tup (.idx .dct (.attr (.loc 43) 5) (.loc 7)) (.lit (.int 1))) .nil)) (.callF 277 (.cons (.idx .dct (.loc 60) (.loc 7)) .nil))) .nil))) (.cons (.ret (.lit (.bool false))) .nil) .nil) .nil)) (.cons (.ife (.cmp .sameL true (.comp .lst (.tup (.cons (.loc 7) (.cons (.callF 277 (.cons (.idx .tup (.idx .dct (.attr (.up 43) 5) (.loc 7)) (.lit (.int 1))) .nil)) .nil))) [7, 65] (.loc 50) none) (.loc 50)) (.cons (.ret (.lit (.bool false))) .nil) .nil) (.cons (.ife (.or (.cons (.cmp .sameL true (.callF 508 (.cons (.loc 43) .nil)) (.lst .nil)) (.cons (.cmp .sameL true (.callF 571 (.cons (.loc 43) .nil)) (.lst .nil)) .nil))) (.cons (.ret (.lit (.bool false))) .nil) .nil) (.cons (.asgIdx .dct (.attr (.loc 43) 6) (.lit (.str "Root")) (.dct [(.s "Outlines")] (.cons (.loc 44) .nil))) (.cons (.ife (.or (.cons (.not (.callF 612 (.cons (.callF 508 (.cons (.loc 43) .nil)) (.cons (.loc 37) .nil)))) (.cons (.cmp .sameL true (.callF 571 (.cons (.loc 43) .nil)) (.lst .nil)) .nil))) (.cons (.ret (.lit (.bool false))) .nil) .nil) (.cons (.ret (.and (.cons (.cmp .eqI false (.callF 447 (.cons (.loc 37) .nil)) (.callF 591 (.cons (.loc 37) .nil))) (.cons (.callF 619 .nil) (.cons (.callF 626 (.cons (.bin .add (.lit (.int 18)) (.callF 579 (.cons (.loc 56) (.cons (.lit (.int 6)) .nil)))) .nil)) .nil))))) .nil)))))))))))))))))))), false⟩
noncomputable def tab : List (Addr × Fn) := [(180, f180), (202, f202), (244, f244), (251, f251), (265, f265), (272, f272), (277, f277), (292, f292), (299, f299), (306, f306), (327, f327), (334, f334), (348, f348), (355, f355), (381, f381), (395, f395), (402, f402), (409, f409), (416, f416), (423, f423), (430, f430), (435, f435), (440, f440), (447, f447), (452, f452), (459, f459), (466, f466), (473, f473), (480, f480), (487, f487), (494, f494), (501, f501), (508, f508), (515, f515), (529, f529), (536, f536), (543, f543), (550, f550), (557, f557), (571, f571), (579, f579), (586, f586), (591, f591), (598, f598), (605, f605), (612, f612), (619, f619), (626, f626), (631, f631)]
noncomputable def T (a : Addr) : Option Fn := tab.lookup a
theorem tr_right (n : Nat) (st : St) : callFn T (n + 12) true 619 [] st = some (.ok (.bool true), st) := by kernel_rfl
theorem ch18 (n : Nat) (st : St) : callFn T (n + 60) true 626 [.int 18] st = some (.ok (.bool true), st) := by kernel_rfl
end Mine
end
section
open PySem
namespace Mine
noncomputable def Runs {α : Type} (m : M α) (st : St) (Q : α → St → Prop) : Prop := ∃ a st', m st = some (.ok a, st') ∧ Q a st'
section
variable {α β : Type} {m : M α} {f : α → M β} {st st' : St} {a : α} {Q : α → St → Prop} {R : β → St → Prop}
theorem Runs.of (e : m st = some (.ok a, st')) (h : Q a st') : Runs m st Q := ⟨a, st', e, h⟩
theorem Runs.pure (h : Q a st) : Runs (M.pure a) st Q := ⟨a, st, rfl, h⟩
theorem Runs.bind (h : Runs m st fun a st' => Runs (f a) st' R) : Runs (m.bind f) st R := by
 obtain ⟨a, st', e, b, st2, e2, h⟩ := h
 exact ⟨b, st2, by unfold M.bind; rw [e]; exact e2, h⟩
theorem Runs.mono (h : Runs m st Q) {Q' : α → St → Prop} (k : ∀ a st', Q a st' → Q' a st') : Runs m st Q' := let ⟨a, st', e, q⟩ := h; ⟨a, st', e, k _ _ q⟩
theorem Runs.onO {γ : Type} {o : Option γ} {x : γ} {k : γ → M α} (e : o = some x) (h : Runs (k x) st Q) : Runs (onO o k) st Q := by subst e; exact h
theorem Runs.onP {p : Prop} [Decidable p] (hp : p) (h : Runs m st Q) : Runs (onP p m) st Q := by unfold Mine.onP; rw [if_pos hp]; exact h
end
theorem leK {a b : Nat} (h : a ≤ b) (hb : Nat.ble b 4000 = true) : a ≤ 4000 := Nat.le_trans h (Nat.le_of_ble_eq_true hb)
theorem fuel_of {a b : Nat} (h : a ≤ b) (hb : Nat.ble b 3999 = true) : a < fuelW := Nat.lt_of_le_of_lt h (Nat.lt_succ_of_le (Nat.le_of_ble_eq_true hb))
theorem ne_low {a b c : Nat} (h : a < b) (h' : b ≤ c) : a ≠ c := Nat.ne_of_lt (ltl h h')
theorem ne_up {a b c : Nat} (h : a < b) (h' : b ≤ c) : c ≠ a := Nat.ne_of_gt (ltl h h')
section
variable {call : Addr → List V → M V} {q : Bool} {loc up : Loc} {st : St} {Q : V → St → Prop} {B : Bool → St → Prop}
noncomputable abbrev RV1 (call : Addr → List V → M V) (q : Bool) (loc up : Loc) (e : E) (st : St) (Q : V → St → Prop) : Prop := Runs (ev2 call q loc up e).1 st Q
noncomputable abbrev RB1 (call : Addr → List V → M V) (q : Bool) (loc up : Loc) (e : E) (st : St) (B : Bool → St → Prop) : Prop := Runs (ev2 call q loc up e).2 st B
noncomputable abbrev RL1 (call : Addr → List V → M V) (q : Bool) (loc up : Loc) (es : Es) (st : St) (Q : List V → St → Prop) : Prop := Runs (evEs call q loc up es) st Q
variable {e a b c : E} {es : Es}
theorem r_lit {v : V} (h : Q v st) : RV1 call q loc up (.lit v) st Q := Runs.pure h
theorem r_loc {i : Nat} {v : V} (e : loc i = some v) (h : Q v st) : RV1 call q loc up (.loc i) st Q := Runs.onO e (Runs.pure h)
theorem r_up {i : Nat} {v : V} (e : up i = some v) (h : Q v st) : RV1 call q loc up (.up i) st Q := Runs.onO e (Runs.pure h)
theorem r_attr {f : Nat} (h : RV1 call q loc up e st fun v st' => Runs (attrV v f) st' Q) : RV1 call q loc up (.attr e f) st Q := Runs.bind h
theorem r_idx {k : IK} (h : RV1 call q loc up a st fun v st' => RV1 call q loc up b st' fun w st2 => Runs (idxV k v w) st2 Q) : RV1 call q loc up (.idx k a b) st Q := Runs.bind (h.mono fun _ _ h => Runs.bind h)
theorem r_bin {o : Op} (h : RV1 call q loc up a st fun v st' => RV1 call q loc up b st' fun w st2 => Runs (opV o v w) st2 Q) : RV1 call q loc up (.bin o a b) st Q := Runs.bind (h.mono fun _ _ h => Runs.bind h)
theorem r_cmpB {k : CK} {n : Bool} (h : RV1 call q loc up a st fun v st' => RV1 call q loc up b st' fun w st2 => Runs (cmpV k n v w) st2 B) : RB1 call q loc up (.cmp k n a b) st B := Runs.bind (h.mono fun _ _ h => Runs.bind h)
theorem r_tr (h : RV1 call q loc up e st fun v st' => ∃ b, v = .bool b ∧ B b st') (ht : (ev2 call q loc up e).2 = (ev2 call q loc up e).1.bind truthV) : RB1 call q loc up e st B := by
 show Runs _ _ _
 rw [ht]
 exact Runs.bind (h.mono fun _ _ ⟨b, e, h⟩ => by subst e; exact Runs.onO rfl (Runs.pure h))
theorem r_nil {Q : List V → St → Prop} (h : Q [] st) : RL1 call q loc up .nil st Q := Runs.pure h
theorem r_cons {Q : List V → St → Prop} (h : RV1 call q loc up e st fun v st' => RL1 call q loc up es st' fun vs st2 => Q (v :: vs) st2) : RL1 call q loc up (.cons e es) st Q :=
 Runs.bind (h.mono fun _ _ h => Runs.bind (h.mono fun _ _ h => Runs.pure h))
theorem r_tup (h : RL1 call q loc up es st fun vs st' => vs.length ≤ 1000 ∧ Q (.tup vs) st') : RV1 call q loc up (.tup es) st Q := Runs.bind (h.mono fun _ _ h => Runs.onP h.1 (Runs.pure h.2))
theorem r_lst (h : RL1 call q loc up es st fun vs st' => vs.length ≤ 1000 ∧ Q (.ref st'.n) (st'.push (.list vs))) : RV1 call q loc up (.lst es) st Q := Runs.bind (h.mono fun _ _ h => Runs.onP h.1 ⟨_, _, rfl, h.2⟩)
theorem r_callF {f : Addr} (h : RL1 call q loc up es st fun vs st' => Runs (call f vs) st' Q) : RV1 call q loc up (.callF f es) st Q := Runs.bind h
theorem r_new {c : Nat} (h : RL1 call q loc up es st fun vs st' => Runs (newV call c vs) st' Q) : RV1 call q loc up (.new c es) st Q := Runs.bind h
theorem r_bi {k : BI} (h : RL1 call q loc up es st fun vs st' => Runs (biV q k vs) st' Q) : RV1 call q loc up (.bi k es) st Q := Runs.bind h
theorem r_callO {c m : Nat} (h : RV1 call q loc up e st fun ov st' => ∃ fs f, ov = .obj c fs ∧ methOf c m = some f ∧ RL1 call q loc up es st' fun vs st2 => Runs (call f (ov :: vs)) st2 Q) : RV1 call q loc up (.callO c m e es) st Q :=
 Runs.bind (h.mono fun _ _ ⟨fs, f, e1, e2, h⟩ => by subst e1; exact Runs.onO rfl (Runs.onP rfl (Runs.onO e2 (Runs.bind h))))
theorem r_callB {m : MK} (h : RV1 call q loc up e st fun ov st' => Runs (readyV ov m) st' fun _ st2 => RL1 call q loc up es st2 fun vs st3 => Runs (methV ov m vs) st3 Q) : RV1 call q loc up (.callB m e es) st Q :=
 Runs.bind (h.mono fun _ _ h => Runs.bind (h.mono fun _ _ h => Runs.bind h))
end
section
variable {call : Bool → Addr → List V → M V} {q : Bool} {loc : Loc} {st : St} {Q : Fl × Loc → St → Prop} {e a b c : E} {es : Es} {s : S} {ss sa sb : Ss}
noncomputable abbrev RS1 (call : Bool → Addr → List V → M V) (q : Bool) (loc : Loc) (s : S) (st : St) (Q : Fl × Loc → St → Prop) : Prop := Runs (evS call q loc s) st Q
noncomputable abbrev RSs (call : Bool → Addr → List V → M V) (q : Bool) (loc : Loc) (s : Ss) (st : St) (Q : Fl × Loc → St → Prop) : Prop := Runs (evSs call q loc s) st Q
noncomputable def contS (call : Bool → Addr → List V → M V) (q : Bool) (r : Ss) (p : Fl × Loc) : M (Fl × Loc) := match p with
 | (.next, loc') => evSs call q loc' r
 | fl => M.pure fl
theorem s_cons (h : RS1 call q loc s st fun p st' => Runs (contS call q ss p) st' Q) : RSs call q loc (.cons s ss) st Q := Runs.bind h
theorem s_asg {x : Nat} (h : RV1 (call q) q loc Loc.none e st fun v st' => Q (.next, loc.put x v) st') : RS1 call q loc (.asg x e) st Q := Runs.bind (h.mono fun _ _ h => Runs.pure h)
theorem s_asg2 {x y : Nat} (h : RV1 (call q) q loc Loc.none e st fun v st' => ∃ u w, v = .tup [u, w] ∧ Q (.next, (loc.put x u).put y w) st') : RS1 call q loc (.asg2 x y e) st Q := Runs.bind (h.mono fun _ _ ⟨u, w, e, h⟩ => by subst e; exact Runs.pure h)
theorem s_ret (h : RV1 (call q) q loc Loc.none e st fun v st' => Q (.ret v, loc) st') : RS1 call q loc (.ret e) st Q := Runs.bind (h.mono fun _ _ h => Runs.pure h)
theorem s_ex (h : RV1 (call q) q loc Loc.none e st fun _ st' => Q (.next, loc) st') : RS1 call q loc (.ex e) st Q := Runs.bind (h.mono fun _ _ h => Runs.pure h)
theorem s_ife (h : RB1 (call q) q loc Loc.none e st fun b st' => RSs call q loc (if b then sa else sb) st' Q) : RS1 call q loc (.ife e sa sb) st Q := Runs.bind (h.mono fun b _ h => by cases b <;> exact h)
theorem s_for {k : FK} {x : Nat} (h : RV1 (call q) q loc Loc.none e st fun v st' => Runs (lockV k v) st' fun _ st2 => Runs (forL q (fun l => evSs call q l ss) x k v fuelW 0 loc) st2 Q) : RS1 call q loc (.for1 k x e ss) st Q :=
 Runs.bind (h.mono fun _ _ h => Runs.bind h)
theorem for_turn {k : FK} {x i n : Nat} {v u : V} {body : Loc → M (Fl × Loc)} (e : nextV st k v i = some (some u)) (h : Runs (body (loc.put x u)) st fun p st' => match p with
  | (.next, l) => Runs (forL q body x k v n (i + 1) l) st' Q
  | (.brk, l) => Q (.next, l) st'
  | (.ret w, l) => Q (.ret w, l) st') : Runs (forL q body x k v (n + 1) i loc) st Q := by
 refine Runs.onO e (Runs.bind (h.mono fun p st' h => ?_))
 cases p with
 | mk fl l =>
  cases fl with
  | next => exact h
  | brk => exact Runs.pure h
  | ret w => exact Runs.pure h
theorem for_end {k : FK} {x i n : Nat} {v : V} {body : Loc → M (Fl × Loc)} (hq : q = true) (e : nextV st k v i = some none) (h : Q (.next, loc) st) : Runs (forL q body x k v (n + 1) i loc) st Q := Runs.onO e (Runs.onP hq (Runs.pure h))
end
theorem c_open {n : Nat} {q : Bool} {a : Addr} {vs : List V} {fn : Fn} {loc : Loc} {st : St} {Q : V → St → Prop} (h1 : T a = some fn) (h2 : clos vs = false) (h3 : bindP fn.ps (withDflt fn vs) Loc.none = some loc)
  (h : RSs (callFn T n) q loc fn.body st fun p st' => Runs (retV fn.keep p.1) st' Q) : Runs (callFn T (n + 1) q a vs) st Q := by
 refine Runs.onO h1 ?_
 unfold cloM Runs
 rw [h2]
 exact Runs.onO h3 (Runs.bind h)
theorem r_notB {call : Addr → List V → M V} {q : Bool} {loc up : Loc} {e : E} {st : St} {B : Bool → St → Prop} (h : RB1 call q loc up e st fun b st' => B (!b) st') : RB1 call q loc up (.not e) st B := Runs.bind (h.mono fun _ _ h => Runs.pure h)
theorem r_isinB {call : Addr → List V → M V} {q : Bool} {loc up : Loc} {e : E} {t : Ty} {st : St} {B : Bool → St → Prop} (h : RV1 call q loc up e st fun v st' => Runs (isinV v t) st' B) : RB1 call q loc up (.isin e t) st B := Runs.bind h
theorem r_frz {v : V} {st : St} {Q : V → St → Prop} (h : slotL st v = none) (hQ : Q v st) : Runs (freezeL v) st Q := ⟨v, st, by unfold freezeL; rw [h], hQ⟩
theorem dictR_of {st : St} {i : Nat} {es : List (DK × V)} (hd : st.f i = .dict es) : dictR st (.ref i) = some (i, es) := by show ((st.f i).dict?.or (st.f i).ldict?).map _ = _; rw [hd]; rfl
theorem r_onK {β : Type} {st : St} {v k : V} {p : Nat × List (DK × V)} {dk : DK} {g : List (DK × V) → DK → M β} {Q : β → St → Prop} (hd : dictR st v = some p) (hk : k.toKey = some dk) (hs : sameKind dk p.2 = true) (h : Runs (g p.2 dk) st Q) : Runs (onK v k g) st Q :=
 (Runs.onO hd (Runs.onO hk (Runs.onP hs h)) : Runs (onO (dictR st v) fun p => onO k.toKey fun dk => onP (sameKind dk p.2 = true) (g p.2 dk)) st Q)
theorem m_get2 {st : St} {i : Nat} {es : List (DK × V)} {k d : V} {dk : DK} {Q : V → St → Prop} (hd : st.f i = .dict es) (hk : k.toKey = some dk) (hs : sameKind dk es = true) (h : Q ((dGet es dk).getD d) st) : Runs (methV (.ref i) .get2 [k, d]) st Q :=
 (r_onK (dictR_of hd) hk hs (Runs.pure h) : Runs (onK (.ref i) k fun es dk => M.pure ((dGet es dk).getD d)) st Q)
theorem y_dict {st : St} {i : Nat} {es : List (DK × V)} {Q : Unit → St → Prop} (hd : st.f i = .dict es) (h : Q () st) : Runs (readyV (.ref i) .get2) st Q :=
 (Runs.onO (dictR_of hd) (Runs.pure h) : Runs (onO (dictR st (.ref i)) fun _ => M.pure ()) st Q)
theorem fetch_ref {n t r : Nat} {a g : Int} {v : V} {tab : List (DK × V)} {st : St} {Q : V → St → Prop} (hT : st.f t = .dict tab) (hk : sameKind (.i a) tab = true) (hg : dGet tab (.i a) = some (.tup [.int g, v])) (hv : isinV v (.cls 254) st = some (.ok false, st)) (hl : slotL st v = none) (hQ : Q v st) :
  Runs (callFn T (n + 1) true 299 [.obj 4 [.ref t, .ref r], .obj 2 [.int a, .int g]]) st Q := by
 refine c_open (fn := f299) rfl rfl rfl ?_
 refine s_cons (s_asg (r_loc rfl ?_))
 refine s_cons (s_for (Runs.of rfl (Runs.of rfl ?_)))
 refine for_turn rfl ?_
 refine s_cons (s_ife (Runs.of rfl (Runs.pure ?_)))
 refine s_cons (s_asg2 (r_callB (Runs.of rfl (y_dict hT (Runs.of rfl (m_get2 hT rfl hk ?_))))))
 rw [hg]
 refine ⟨_, _, rfl, ?_⟩
 refine s_cons (s_ife (Runs.of (a := false) (st' := st) ?_ (Runs.pure ?_)))
 ·show some (Except.ok (nb true (decide (g = g))), st) = _
  rw [decide_eq_true rfl]; rfl
 refine s_cons (s_asg (Runs.of rfl (Runs.pure ?_)))
 refine for_turn rfl ?_
 refine s_cons (s_ife (r_notB (r_isinB (r_loc rfl (Runs.of hv ?_)))))
 exact s_cons (s_ret (Runs.of rfl (Runs.pure (Runs.pure (Runs.pure (r_frz hl hQ))))))
end Mine
end
section
open PySem PySem.W
namespace Mine
noncomputable def octs : List (List Nat) := [[], [65], [84, 101, 105, 108, 32, 49], [128, 32, 160], [153, 233], [254, 255, 3, 177, 3, 178], [254, 255, 0, 254, 0, 255], [254, 255, 216, 61, 222, 0], [10, 9], [254, 255, 0, 1]]
noncomputable def tit (i : Nat) : Str := titles.getD i ""
noncomputable def oct (i : Nat) : List Nat := octs.getD i []
theorem oct_all (n : Nat) (st : St) : ∀ i, i < 10 → callFn T (n + 8) true 435 [.str (tit i)] st = some (.ok (.bytes (oct i)), st)
 | 0, _ => by kernel_rfl
 | 1, _ => by kernel_rfl
 | 2, _ => by kernel_rfl
 | 3, _ => by kernel_rfl
 | 4, _ => by kernel_rfl
 | 5, _ => by kernel_rfl
 | 6, _ => by kernel_rfl
 | 7, _ => by kernel_rfl
 | 8, _ => by kernel_rfl
 | 9, _ => by kernel_rfl
 | i + 10, h => absurd h (by omega)
theorem txt_all (n : Nat) (st : St) : ∀ i, i < 10 → callFn T (n + 8) true 440 [.bytes (oct i)] st = some (.ok (.str (tit i)), st)
 | 0, _ => by kernel_rfl
 | 1, _ => by kernel_rfl
 | 2, _ => by kernel_rfl
 | 3, _ => by kernel_rfl
 | 4, _ => by kernel_rfl
 | 5, _ => by kernel_rfl
 | 6, _ => by kernel_rfl
 | 7, _ => by kernel_rfl
 | 8, _ => by kernel_rfl
 | 9, _ => by kernel_rfl
 | i + 10, h => absurd h (by omega)
theorem told_nil (n : Nat) (st : St) : callFn T (n + 4) true 277 [.nil] st = some (.ok (.tup [.str "null"]), st) := by kernel_rfl
theorem told_int (n : Nat) (st : St) (x : Int) : callFn T (n + 4) true 277 [.int x] st = some (.ok (.tup [.str "int", .int x]), st) := by kernel_rfl
theorem told_name (n : Nat) (st : St) (s : Str) : callFn T (n + 4) true 277 [.obj 0 [.str s]] st = some (.ok (.tup [.str "name", .str s]), st) := by kernel_rfl
theorem told_str (n : Nat) (st : St) (b : List Nat) : callFn T (n + 4) true 277 [.obj 1 [.bytes b, .bool false]] st = some (.ok (.tup [.str "string", .bytes b]), st) := by kernel_rfl
theorem told_ref (n : Nat) (st : St) (a g : Int) : callFn T (n + 4) true 277 [.obj 2 [.int a, .int g]] st = some (.ok (.tup [.str "ref", .int a, .int g]), st) := by kernel_rfl
theorem told_arr (n : Nat) (st : St) : callFn T (n + 6) true 277 [.lst [.obj 2 [.int 1, .int 0], .obj 0 [.str "Fit"]]] st = some (.ok (.tup [.str "array", .tup [.str "ref", .int 1, .int 0], .tup [.str "name", .str "Fit"]]), st) := by kernel_rfl
theorem ch19 (n : Nat) (st : St) : callFn T (n + 60) true 626 [.int 19] st = some (.ok (.bool true), st) := by kernel_rfl
theorem ch20 (n : Nat) (st : St) : callFn T (n + 60) true 626 [.int 20] st = some (.ok (.bool true), st) := by kernel_rfl
theorem ch21 (n : Nat) (st : St) : callFn T (n + 60) true 626 [.int 21] st = some (.ok (.bool true), st) := by kernel_rfl
theorem ch22 (n : Nat) (st : St) : callFn T (n + 60) true 626 [.int 22] st = some (.ok (.bool true), st) := by kernel_rfl
theorem ch23 (n : Nat) (st : St) : callFn T (n + 60) true 626 [.int 23] st = some (.ok (.bool true), st) := by kernel_rfl
end Mine
end
section
open PySem
namespace Mine
section
variable {st : St} {v : V} {xs : List V} {i : Nat} {Q : V → St → Prop} {B : Bool → St → Prop} {q : Bool}
theorem listOf_ref (hf : st.f i = .list xs) : listOf st (.ref i) = some xs := by show (st.f i).list? = _; rw [hf]; rfl
theorem slotL_ref (hf : st.f i = .list xs) : slotL st (.ref i) = some (i, xs) := by show ((st.f i).list?.map fun xs => (i, xs)) = _; rw [hf]; rfl
theorem r_onL {β : Type} {k : List V → M β} {Q : β → St → Prop} (h : listOf st v = some xs) (hk : Runs (k xs) st Q) : Runs (onL v k) st Q := (Runs.onO h hk : Runs (onO (listOf st v) k) st Q)
theorem b_len (h : listOf st v = some xs) (hz : xs.length ≤ 4000) (hQ : Q (.int xs.length) st) : Runs (biV q .lenL [v]) st Q :=
 (r_onL h (Runs.onP (by omega) (Runs.pure hQ)) : Runs (onL v fun xs => onP (xs.length ≤ 1099511627776) (M.pure (.int xs.length))) st Q)
theorem i_lst {k : Int} {j : Nat} {x : V} (h : listOf st v = some xs) (hj : idxAt xs.length k = some j) (hx : xs[j]? = some x) (hQ : Q x st) : Runs (idxV .lst v (.int k)) st Q :=
 (r_onL h (Runs.onO rfl (Runs.onO hj (Runs.onO hx (Runs.pure hQ)))) : Runs (onL v fun xs => onO (V.int? (.int k)) fun i => onO (idxAt xs.length i) fun j => onO xs[j]? M.pure) st Q)
theorem idxAt_nat {n k : Nat} (h : k < n) (hn : n ≤ 4000) : idxAt n (k : Int) = some k := by
 unfold idxAt
 rw [if_neg (by omega), if_pos (by omega)]
 rfl
theorem s_asgIdx {call : Bool → Addr → List V → M V} {loc : Loc} {k : IK} {o i e : E} {Q : Fl × Loc → St → Prop} (h : RV1 (call q) q loc Loc.none e st fun v st1 => RV1 (call q) q loc Loc.none o st1 fun ov st2 => RV1 (call q) q loc Loc.none i st2 fun iv st3 => Runs (setIdxV k ov iv v) st3 fun _ st4 => Q (.next, loc) st4) :
  RS1 call q loc (.asgIdx k o i e) st Q := Runs.bind (h.mono fun _ _ h => Runs.bind (h.mono fun _ _ h => Runs.bind (h.mono fun _ _ h => Runs.bind (h.mono fun _ _ h => Runs.pure h))))
theorem x_lst {p : Nat} {x : V} {k : Nat} {R : Unit → St → Prop} (h : st.f p = .list xs) (hk : k < xs.length) (hz : xs.length ≤ 4000) (hQ : R () (st.set p (.list (xs.set k x)))) : Runs (setIdxV .lst (.ref p) (.int k) x) st R :=
 (Runs.onO (slotL_ref h) (Runs.onO rfl (Runs.onP (by constructor; omega; constructor; exact Int.ofNat_lt.mpr hk; exact (by omega : xs.length < 1099511627776)) ⟨(), _, rfl, hQ⟩)) :
  Runs (onO (slotL st (.ref p)) fun p => onO (V.int? (.int k)) fun j => onP (0 ≤ j ∧ j < p.2.length ∧ p.2.length < 1099511627776) fun st => some (.ok (), st.set p.1 (.list (p.2.set j.toNat x)))) st R)
theorem m_pop {p : Nat} {x : V} (h : st.f p = .list (x :: xs)) (hz : (x :: xs).length ≤ 4000) (hQ : Q x (st.set p (.list xs))) : Runs (methV (.ref p) .pop [.int 0]) st Q :=
 (Runs.onO (slotL_ref h) (Runs.onP (by show (x :: xs).length ≤ 10000000; omega) ⟨x, _, rfl, hQ⟩) :
  Runs (onO (slotL st (.ref p)) fun p => onP (p.2.length ≤ 10000000) (onO p.2.head? fun x st => some (.ok x, st.set p.1 (.list p.2.tail)))) st Q)
theorem y_pop {p : Nat} {R : Unit → St → Prop} (h : st.f p = .list xs) (hQ : R () st) : Runs (readyV (.ref p) .pop) st R := (Runs.onO (slotL_ref h) (Runs.pure hQ) : Runs (onO (slotL st (.ref p)) fun _ => M.pure ()) st R)
theorem set_f {o : Ob} {j : Nat} : (st.set i o).f i = o := if_pos rfl
theorem set_ne {o : Ob} {j : Nat} (h : j ≠ i) : (st.set i o).f j = st.f j := if_neg h
theorem c_eqI {n : Bool} {a b : Int} (hQ : B (nb n (decide (a = b))) st) : Runs (cmpV .eqI n (.int a) (.int b)) st B := Runs.pure hQ
end
theorem nbF {p : Prop} [Decidable p] (h : ¬ p) : nb false (decide p) = false := by show decide p = false; exact decide_eq_false h
theorem nbT {p : Prop} [Decidable p] (h : p) : nb false (decide p) = true := by show decide p = true; exact decide_eq_true h
theorem ndF {p : Prop} [Decidable p] (h : ¬ p) : nb true (decide p) = true := by show (!decide p) = true; rw [decide_eq_false h]; rfl
theorem ndT {p : Prop} [Decidable p] (h : p) : nb true (decide p) = false := by show (!decide p) = false; rw [decide_eq_true h]; rfl
noncomputable def OnlyAt (p : Nat) (st st' : St) : Prop := st'.n = st.n ∧ ∀ j, j ≠ p → st'.f j = st.f j
noncomputable def PoolAt (p : Nat) (st : St) : Prop := ∃ xs : List Int, st.f p = .list (xs.map .int) ∧ xs.length ≤ 24
theorem OnlyAt.set {p : Nat} {st st' : St} {o : Ob} (h : OnlyAt p st st') : OnlyAt p st (st'.set p o) := ⟨h.1, fun j hj => (if_neg hj).trans (h.2 j hj)⟩
theorem len_map {xs : List Int} {k : Nat} (h : xs.length ≤ k) : (xs.map V.int).length ≤ k := by rw [List.length_map]; exact h
theorem zero_ne {xs : List V} {x : V} : ¬ (((x :: xs).length : Nat) : Int) = 0 := fun h => by cases h
theorem take_ok {n p : Nat} {m : Int} {st : St} {Q : V → St → Prop} (hp : PoolAt p st) (h0 : 0 < m) (h1 : m < 1073741824) (hQ : ∀ d st', 0 ≤ d → d < m → OnlyAt p st st' → PoolAt p st' → Q (.int d) st') :
  Runs (callFn T (n + 1) true 579 [.ref p, .int m]) st Q := by
 obtain ⟨xs, hf, hz⟩ := hp
 have L := listOf_ref hf
 have hz' : (xs.map V.int).length ≤ 4000 := leK (len_map hz) rfl
 refine c_open (fn := f579) rfl rfl rfl ?_
 refine s_cons (s_ife (r_cmpB (r_bi (r_cons (r_loc rfl (r_nil (b_len L hz' (r_lit (c_eqI ?_)))))))))
 cases xs with
 | nil => exact s_cons (s_ret (r_lit (Runs.pure (Runs.pure (Runs.pure (hQ 0 st (Int.le_refl _) h0 ⟨rfl, fun _ _ => rfl⟩ ⟨[], hf, Nat.zero_le _⟩))))))
 | cons x xs =>
  rw [nbF (p := (((x :: xs).map V.int).length : Int) = 0) zero_ne]
  refine Runs.pure ?_
  refine s_cons (s_asg (r_bin (r_idx (r_loc rfl (r_lit (i_lst L (idxAt_nat (k := 0) (Nat.succ_pos _) hz') rfl (r_loc rfl (Runs.onO rfl (Runs.onO rfl (Runs.onP h0 (Runs.pure ?_)))))))))))
  refine s_cons (s_asgIdx (r_bin (r_idx (r_loc rfl (r_lit (i_lst L (idxAt_nat (k := 0) (Nat.succ_pos _) hz') rfl (r_loc rfl (Runs.onO rfl (Runs.onO rfl (Runs.onP ⟨h0, h1⟩ (Runs.pure ?_)))))))))))
  refine r_loc rfl (r_lit (x_lst (k := 0) hf (Nat.succ_pos _) hz' ?_))
  have hf2 : (st.set p (.list (.int (x.fdiv m) :: xs.map V.int))).f p = .list (.int (x.fdiv m) :: xs.map V.int) := if_pos rfl
  have hz2 : (V.int (x.fdiv m) :: xs.map V.int).length ≤ 4000 := hz'
  have only : OnlyAt p st (st.set p (.list (.int (x.fdiv m) :: xs.map V.int))) := OnlyAt.set ⟨rfl, fun _ _ => rfl⟩
  have d0 := Int.fmod_nonneg_of_pos x h0
  have d1 := Int.fmod_lt_of_pos x h0
  refine s_cons (s_ife (r_cmpB (r_idx (r_loc rfl (r_lit (i_lst (listOf_ref hf2) (idxAt_nat (k := 0) (Nat.succ_pos _) hz2) rfl (r_lit (c_eqI ?_))))))))
  by_cases hx : x.fdiv m = 0
  ·rw [nbT hx]
   refine s_cons (s_ex (r_callB (r_loc rfl (y_pop hf2 (r_cons (r_lit (r_nil (m_pop hf2 hz2 ?_))))))))
   exact Runs.pure (s_cons (s_ret (r_loc rfl (Runs.pure (Runs.pure (hQ _ _ d0 d1 only.set ⟨xs, if_pos rfl, Nat.le_trans (Nat.le_succ _) hz⟩))))))
  ·rw [nbF hx]
   exact Runs.pure (s_cons (s_ret (r_loc rfl (Runs.pure (Runs.pure (hQ _ _ d0 d1 only ⟨x.fdiv m :: xs, if_pos rfl, hz⟩))))))
noncomputable def Ext (st st' : St) : Prop := st.n ≤ st'.n ∧ ∀ j, j < st.n → st'.f j = st.f j
theorem Ext.refl (st : St) : Ext st st := ⟨Nat.le_refl _, fun _ _ => rfl⟩
theorem Ext.trans {a b c : St} (x : Ext a b) (y : Ext b c) : Ext a c := ⟨Nat.le_trans x.1 y.1, fun j hj => (y.2 j (ltl hj x.1)).trans (x.2 j hj)⟩
theorem Ext.push {a b : St} (x : Ext a b) (o : Ob) : Ext a (b.push o) := ⟨Nat.le_succ_of_le x.1, fun j hj => (if_neg (Nat.ne_of_lt (ltl hj x.1))).trans (x.2 j hj)⟩
theorem Ext.set {a b : St} {i : Nat} (x : Ext a b) (h : a.n ≤ i) (o : Ob) : Ext a (b.set i o) := ⟨x.1, fun j hj => (if_neg (Nat.ne_of_lt (ltl hj h))).trans (x.2 j hj)⟩
theorem push_f {st : St} {o : Ob} : (st.push o).f st.n = o := if_pos rfl
section
variable {st : St} {i c f : Nat} {fs : List V} {x : V} {q : Bool}
theorem set_self {o : Ob} : (st.set i o).f i = o := if_pos rfl
theorem a_set {R : Unit → St → Prop} (h : st.f i = .inst c fs) (hx : fieldIdx c f = some fs.length) (hQ : R () (st.set i (.inst c (fs ++ [x])))) : Runs (setAttrV (.ref i) f x) st R :=
 (Runs.onO (show instAt st (.ref i) = some (i, c, fs) by show ((st.f i).inst?.map _) = _; rw [h]; rfl) (Runs.onP hx ⟨(), _, rfl, hQ⟩) :
  Runs (onO (instAt st (.ref i)) fun p => onP (fieldIdx p.2.1 f = some p.2.2.length) fun st => some (.ok (), st.set p.1 (.inst p.2.1 (p.2.2 ++ [x])))) st R)
theorem s_asgAttr {call : Bool → Addr → List V → M V} {loc : Loc} {o e : E} {Q : Fl × Loc → St → Prop} (h : RV1 (call q) q loc Loc.none e st fun v st1 => RV1 (call q) q loc Loc.none o st1 fun ov st2 => Runs (setAttrV ov f v) st2 fun _ st3 => Q (.next, loc) st3) :
  RS1 call q loc (.asgAttr o f e) st Q := Runs.bind (h.mono fun _ _ h => Runs.bind (h.mono fun _ _ h => Runs.bind (h.mono fun _ _ h => Runs.pure h)))
theorem v_new {call : Addr → List V → M V} {args : List V} {Q : V → St → Prop} (h3 : c ≠ 3) (h : Runs (call (initAddr c) (.ref st.n :: args)) (st.push (.inst c [])) fun r st' => r = .nil ∧ ∃ fs, st'.f st.n = .inst c fs ∧ fs.length = (fieldsOf c).length ∧ Q (.obj c fs) (st'.set st.n .gone)) :
  Runs (newV call c args) st Q := by
 refine Runs.bind (Runs.of rfl (Runs.bind (h.mono fun r st' z => ?_)))
 obtain ⟨rfl, fs, h1, h2, hQ⟩ := z
 refine Runs.onP rfl (Runs.onO rfl ?_)
 exact (Runs.onO (show instAt st' (.ref st.n) = some (st.n, c, fs) by show ((st'.f st.n).inst?.map _) = _; rw [h1]; rfl) (Runs.onP h2 ⟨.obj c fs, st'.set st.n .gone, if_neg h3, hQ⟩) :
  Runs (onO (instAt st' (.ref st.n)) fun p => onP (p.2.2.length = (fieldsOf p.2.1).length) fun s2 => if p.2.1 = 3 then ((freezeLs p.2.2).bind fun fs' => M.pure (.obj p.2.1 fs')) (s2.set st.n .gone) else some (.ok (.obj p.2.1 p.2.2), s2.set st.n .gone)) st' Q)
end
theorem new_name {n : Nat} {s : Str} {st : St} {Q : V → St → Prop} (h : ∀ st', Ext st st' → Q (.obj 0 [.str s]) st') : Runs (newV (callFn T (n + 1) true) 0 [.str s]) st Q := by
 refine v_new (by decide) (c_open (fn := f180) rfl rfl rfl ?_)
 refine s_cons (s_asgAttr (r_loc rfl (r_loc rfl (a_set push_f rfl (Runs.pure (Runs.pure ⟨rfl, _, set_self, rfl, ?_⟩))))))
 exact h _ ((((Ext.refl st).push _).set (Nat.le_refl _) _).set (Nat.le_refl _) _)
theorem new_str {n : Nat} {b : List Nat} {st : St} {Q : V → St → Prop} (h : ∀ st', Ext st st' → Q (.obj 1 [.bytes b, .bool false]) st') : Runs (newV (callFn T (n + 1) true) 1 [.bytes b]) st Q := by
 refine v_new (by decide) (c_open (fn := f202) rfl rfl rfl ?_)
 refine s_cons (s_asgAttr (r_loc rfl (r_loc rfl (a_set push_f rfl ?_))))
 refine s_cons (s_asgAttr (r_loc rfl (r_loc rfl (a_set set_self rfl (Runs.pure (Runs.pure ⟨rfl, _, set_self, rfl, ?_⟩))))))
 exact h _ (((((Ext.refl st).push _).set (Nat.le_refl _) _).set (Nat.le_refl _) _).set (Nat.le_refl _) _)
theorem new_ref {n : Nat} {a g : Int} {st : St} {Q : V → St → Prop} (h : ∀ st', Ext st st' → Q (.obj 2 [.int a, .int g]) st') : Runs (newV (callFn T (n + 1) true) 2 [.int a, .int g]) st Q := by
 refine v_new (by decide) (c_open (fn := f244) rfl rfl rfl ?_)
 refine s_cons (s_asgAttr (r_loc rfl (r_loc rfl (a_set push_f rfl ?_))))
 refine s_cons (s_asgAttr (r_loc rfl (r_loc rfl (a_set set_self rfl (Runs.pure (Runs.pure ⟨rfl, _, set_self, rfl, ?_⟩))))))
 exact h _ (((((Ext.refl st).push _).set (Nat.le_refl _) _).set (Nat.le_refl _) _).set (Nat.le_refl _) _)
section
variable {st : St} {i c f : Nat} {fs : List V} {x : V} {q : Bool} {call : Addr → List V → M V} {loc up : Loc} {e : E} {es : Es}
theorem slotL_clo {v : V} (h : v.clo = true) : slotL st v = none := by cases v <;> first | rfl | cases h
theorem r_and {a b : E} {Q : V → St → Prop} (h : RV1 call q loc up a st fun v st' => ∃ t, v = .bool t ∧ (t = true → RV1 call q loc up b st' Q) ∧ (t = false → Q (.bool false) st')) : RV1 call q loc up (.and (.cons a (.cons b .nil))) st Q :=
 Runs.bind (h.mono fun _ _ ⟨t, e, h1, h2⟩ => by
  subst e
  refine Runs.bind (Runs.of rfl ?_)
  cases t
  ·exact Runs.pure (h2 rfl)
  ·exact h1 rfl)
theorem r_cmp {k : CK} {n : Bool} {a b : E} {Q : V → St → Prop} (h : RV1 call q loc up a st fun v st' => RV1 call q loc up b st' fun w st2 => Runs (cmpV k n v w) st2 fun r st3 => Q (.bool r) st3) : RV1 call q loc up (.cmp k n a b) st Q :=
 Runs.bind (Runs.bind (h.mono fun _ _ h => Runs.bind (h.mono fun _ _ h => h.mono fun _ _ h => Runs.pure h)))
theorem c_le {B : Bool → St → Prop} {n : Bool} {a b : Int} (hQ : B (nb n (decide (a ≤ b))) st) : Runs (cmpV .le n (.int a) (.int b)) st B := Runs.pure hQ
theorem c_lt {B : Bool → St → Prop} {n : Bool} {a b : Int} (hQ : B (nb n (decide (a < b))) st) : Runs (cmpV .lt n (.int a) (.int b)) st B := Runs.pure hQ
theorem b_list {v : V} {xs : List V} {Q : V → St → Prop} (h : listOf st v = some xs) (hz : xs.length ≤ 4000) (hQ : Q (.ref st.n) (st.push (.list xs))) : Runs (biV q .listT [v]) st Q :=
 (Runs.onO (show v.tup?.or (listOf st v) = some xs by
   cases v <;> first | exact h | (cases h)) (Runs.onP (by omega) ⟨_, _, rfl, hQ⟩) : Runs (onO (v.tup?.or (listOf st v)) fun xs => onP (xs.length ≤ 10000000) (mPush (.list xs))) st Q)
theorem r_frzL {k : Nat} {xs : List V} {Q : V → St → Prop} (h : st.f k = .list xs) (hQ : Q (.lst xs) (st.set k .gone)) : Runs (freezeL (.ref k)) st Q := ⟨.lst xs, _, by unfold freezeL; rw [slotL_ref h], hQ⟩
theorem fl_cons {v : V} {r : List V} {Q : List V → St → Prop} (h : Runs (freezeL v) st fun v' st' => Runs (freezeLs r) st' fun r' st2 => Q (v' :: r') st2) : Runs (freezeLs (v :: r)) st Q :=
 Runs.bind (h.mono fun _ _ h => Runs.bind (h.mono fun _ _ h => Runs.pure h))
theorem v_head {args : List V} {Q : V → St → Prop} (h : Runs (call 381 (.ref st.n :: args)) (st.push (.inst 3 [])) fun r st' => r = .nil ∧ ∃ t g o k xs, st'.f st.n = .inst 3 [.str t, g, .bool o, .ref k] ∧ Runs (freezeL g) (st'.set st.n .gone) fun g' st2 => st2.f k = .list xs ∧ Q (.obj 3 [.str t, g', .bool o, .lst xs]) (st2.set k .gone)) :
  Runs (newV call 3 args) st Q := by
 refine Runs.bind (Runs.of rfl (Runs.bind (h.mono fun r st' z => ?_)))
 obtain ⟨rfl, t, g, o, k, xs, h1, hQ⟩ := z
 refine Runs.onP rfl (Runs.onO rfl ?_)
 have fr : Runs (freezeLs [.str t, g, .bool o, .ref k]) (st'.set st.n .gone) fun fs' st3 => Q (.obj 3 fs') st3 :=
  fl_cons (r_frz rfl (fl_cons (hQ.mono fun g' st2 z => fl_cons (r_frz rfl (fl_cons (r_frzL z.1 (Runs.pure z.2)))))))
 exact (Runs.onO (show instAt st' (.ref st.n) = some (st.n, 3, _) by show ((st'.f st.n).inst?.map _) = _; rw [h1]; rfl) (Runs.onP rfl (Runs.bind (fr.mono fun _ _ z => Runs.pure z) : Runs (fun s2 => ((freezeLs _).bind fun fs' => M.pure (.obj 3 fs')) (s2.set st.n .gone)) st' Q)) :
  Runs (onO (instAt st' (.ref st.n)) fun p => onP (p.2.2.length = (fieldsOf p.2.1).length) fun s2 => if p.2.1 = 3 then ((freezeLs p.2.2).bind fun fs' => M.pure (.obj p.2.1 fs')) (s2.set st.n .gone) else some (.ok (.obj p.2.1 p.2.2), s2.set st.n .gone)) st' Q)
end
theorem Ext.listOf {st st' : St} {v : V} {xs : List V} (x : Ext st st') (h : listOf st v = some xs) (hv : ∀ j, v = .ref j → j < st.n) : listOf st' v = some xs := by
 cases v with
 | ref j => exact (congrArg Ob.list? (x.2 j (hv j rfl))).trans h
 | _ => exact h
noncomputable def TG (st : St) (g g' : V) : Prop := (g.clo = true ∧ g' = g) ∨ ∃ j ys, g = .ref j ∧ g' = .lst ys ∧ j < st.n ∧ st.f j = .list ys
noncomputable def But (g : V) (st st' : St) : Prop := st.n ≤ st'.n ∧ ∀ j, j < st.n → g ≠ .ref j → st'.f j = st.f j
theorem new_head {n : Nat} {t : Str} {g g' kids : V} {o : Bool} {xs : List V} {st : St} {Q : V → St → Prop} (hg : TG st g g') (hk : listOf st kids = some xs) (hkn : ∀ j, kids = .ref j → j < st.n) (hz : xs.length ≤ 4000)
  (h : ∀ st', But g st st' → Q (.obj 3 [.str t, g', .bool (o && !xs.isEmpty), .lst xs]) st') : Runs (newV (callFn T (n + 1) true) 3 [.str t, g, .bool o, kids]) st Q := by
 refine v_head (c_open (fn := f381) rfl rfl rfl ?_)
 refine s_cons (s_asgAttr (r_loc rfl (r_loc rfl (a_set push_f rfl ?_))))
 refine s_cons (s_asgAttr (r_loc rfl (r_loc rfl (a_set set_self rfl ?_))))
 have x2 : Ext st (((st.push (.inst 3 [])).set st.n (.inst 3 ([] ++ [.str t]))).set st.n (.inst 3 ([] ++ [.str t] ++ [g]))) := (((Ext.refl st).push _).set (Nat.le_refl _) _).set (Nat.le_refl _) _
 have f2 : (((st.push (.inst 3 [])).set st.n (.inst 3 ([] ++ [.str t]))).set st.n (.inst 3 ([] ++ [.str t] ++ [g]))).f st.n = .inst 3 [.str t, g] := set_self
 have n2 : (((st.push (.inst 3 [])).set st.n (.inst 3 ([] ++ [.str t]))).set st.n (.inst 3 ([] ++ [.str t] ++ [g]))).n = st.n + 1 := rfl
 generalize (((st.push (.inst 3 [])).set st.n (.inst 3 ([] ++ [.str t]))).set st.n (.inst 3 ([] ++ [.str t] ++ [g]))) = s2 at x2 f2 n2 ⊢
 have hk2 := x2.listOf hk hkn
 refine s_cons (s_asgAttr (Runs.mono (Q := fun v st' => v = .bool (o && !xs.isEmpty) ∧ st' = s2) (r_and (r_loc rfl ⟨o, rfl, fun ho => r_cmp (r_bi (r_cons (r_loc rfl (r_nil (b_len hk2 hz (r_lit (c_le ⟨?_, rfl⟩))))))), fun ho => ⟨by rw [ho]; rfl, rfl⟩⟩)) fun v st' z => ?_))
 ·rw [ho]
  cases xs with
  | nil => rfl
  | cons x xs => rw [ndF (p := (((x :: xs).length : Nat) : Int) ≤ 0) (by rw [List.length_cons]; omega)]; rfl
 obtain ⟨rfl, rfl⟩ := z
 refine r_loc rfl (a_set f2 rfl ?_)
 have x3 : Ext st (st'.set st.n (.inst 3 ([.str t, g] ++ [.bool (o && !xs.isEmpty)]))) := x2.set (Nat.le_refl _) _
 refine s_cons (s_asgAttr (r_bi (r_cons (r_loc rfl (r_nil (b_list (x3.listOf hk hkn) hz (r_loc rfl (a_set (fs := [.str t, g, .bool (o && !xs.isEmpty)]) ((if_neg (by show st.n ≠ st'.n; omega)).trans set_self) rfl ?_))))))))
 refine Runs.pure (Runs.pure ⟨rfl, t, g, _, st'.n, xs, set_self, ?_⟩)
 have x4 := ((x3.push (.list xs)).set (i := st.n) (Nat.le_refl _) (.inst 3 ([.str t, g, .bool (o && !xs.isEmpty)] ++ [.ref (st'.set st.n (.inst 3 ([.str t, g] ++ [.bool (o && !xs.isEmpty)]))).n]))).set (i := st.n) (Nat.le_refl _) .gone
 have hne : st'.n ≠ st.n := by omega
 have hl : ((((st'.set st.n (.inst 3 ([.str t, g] ++ [.bool (o && !xs.isEmpty)]))).push (.list xs)).set st.n (.inst 3 ([.str t, g, .bool (o && !xs.isEmpty)] ++ [.ref (st'.set st.n (.inst 3 ([.str t, g] ++ [.bool (o && !xs.isEmpty)]))).n]))).set st.n .gone).f st'.n = .list xs := (if_neg hne).trans ((if_neg hne).trans push_f)
 generalize (((st'.set st.n (.inst 3 ([.str t, g] ++ [.bool (o && !xs.isEmpty)]))).push (.list xs)).set st.n (.inst 3 ([.str t, g, .bool (o && !xs.isEmpty)] ++ [.ref (st'.set st.n (.inst 3 ([.str t, g] ++ [.bool (o && !xs.isEmpty)]))).n]))).set st.n .gone = s4 at x4 hl ⊢
 have hle : st.n ≤ st'.n := by omega
 rcases hg with ⟨hc, rfl⟩ | ⟨j, ys, rfl, rfl, hj, hf⟩
 ·exact r_frz (slotL_clo hc) ⟨hl, h _ ⟨x4.1, fun i hi _ => (x4.set hle .gone).2 i hi⟩⟩
 ·refine r_frzL ((x4.2 j hj).trans hf) ⟨(if_neg (by omega)).trans hl, h _ ⟨x4.1, fun i hi hij => ?_⟩⟩
  exact (if_neg (by omega)).trans ((if_neg fun e => hij (by rw [e])).trans (x4.2 i hi))
section
variable {body : Loc → M (Fl × Loc)} {x : Nat} {loc : Loc} {st : St} {Q : Fl × Loc → St → Prop}
theorem for_rng {c : Nat} (I : Nat → Loc → St → Prop) (hs : ∀ i loc st (R : Fl × Loc → St → Prop), i < c → I i loc st → (∀ loc' st', I (i + 1) loc' st' → R (.next, loc') st') → Runs (body (loc.put x (.int i))) st R) (he : ∀ loc st, I c loc st → Q (.next, loc) st) :
  ∀ (k N i : Nat) (loc : Loc) (st : St), i + k = c → k < N → I i loc st → Runs (forL true body x .rng (.rng 0 c 1) N i loc) st Q
 | k, 0, _, _, _, _, hN, _ => absurd hN (Nat.not_lt_zero _)
 | 0, N + 1, i, loc, st, hik, _, hI => by
  refine for_end rfl (congrArg some (if_neg ?_)) (he loc st (by rw [← hik]; exact hI))
  show ¬ (0 + (i : Int) * 1 < c)
  omega
 | k + 1, N + 1, i, loc, st, hik, hN, hI =>
  for_turn (u := .int i) (congrArg some ((if_pos (show (0 : Int) + i * 1 < c by omega)).trans (congrArg (fun z => some (V.int z)) (show (0 : Int) + i * 1 = i by omega)))) (hs i loc st _ (by omega) hI fun l st' z => (for_rng I hs he k N (i + 1) l st' (by omega) (Nat.lt_of_succ_lt_succ hN) z : Runs (forL true body x .rng (.rng 0 c 1) N (i + 1) l) st' Q))
theorem for_lst {k : FK} {v : V} {xs : List V} (I : List V → Loc → St → Prop) (hn : ∀ r loc st i, I r loc st → nextV st k v i = some xs[i]?) (hs : ∀ u r loc st (R : Fl × Loc → St → Prop), I (u :: r) loc st → (∀ loc' st', I r loc' st' → R (.next, loc') st') → Runs (body (loc.put x u)) st R) (he : ∀ loc st, I [] loc st → Q (.next, loc) st) :
  ∀ (r : List V) (N i : Nat) (loc : Loc) (st : St), xs.drop i = r → r.length < N → I r loc st → Runs (forL true body x k v N i loc) st Q
 | _, 0, _, _, _, _, hN, _ => absurd hN (Nat.not_lt_zero _)
 | [], N + 1, i, loc, st, hd, _, hI => for_end rfl ((hn _ _ _ i hI).trans (congrArg some (List.getElem?_eq_none (List.drop_eq_nil_iff.mp hd)))) (he loc st hI)
 | u :: r, N + 1, i, loc, st, hd, hN, hI =>
  have h1 : xs[i]? = some u := List.head?_drop.symm.trans (congrArg List.head? hd)
  have h2 : xs.drop (i + 1) = r := List.tail_drop.symm.trans (congrArg List.tail hd)
  for_turn (u := u) ((hn _ _ _ i hI).trans (congrArg some h1)) (hs u r loc st _ hI fun l st' z => (for_lst I hn hs he r N (i + 1) l st' h2 (Nat.lt_of_succ_lt_succ hN) z : Runs (forL true body x k v N (i + 1) l) st' Q))
end
theorem c_clo {n : Nat} {q : Bool} {a : Addr} {vs : List V} {fn : Fn} {loc : Loc} {st : St} {Q : V → St → Prop} (h1 : T a = some fn) (h2 : clos vs = true) (h3 : bindP fn.ps (withDflt fn vs) Loc.none = some loc)
  (h : RSs (callFn T n) q loc fn.body st0 fun p st' => Runs (retV fn.keep p.1) st' fun v _ => v.clo = true ∧ Q v st) : Runs (callFn T (n + 1) q a vs) st Q := by
 refine Runs.onO h1 ?_
 obtain ⟨v, st', e, hv, hQ⟩ := (Runs.onO h3 (Runs.bind h) : Runs (bodyFn (callFn T n) q fn vs) st0 fun v _ => v.clo = true ∧ Q v st)
 refine ⟨v, st, ?_, hQ⟩
 show (if clos vs = true then _ else _) = _
 rw [if_pos h2, show bodyFn (callFn T n) q fn vs st0 = some (.ok v, st') from e]
 exact if_pos hv
noncomputable def targs : List V := [.nil, .obj 0 [.str "d"], .lst [.obj 2 [.int 1, .int 0], .obj 0 [.str "Fit"]], .obj 1 [.bytes [110], .bool false]]
noncomputable def hv (i k : Nat) (o : Bool) (ks : List V) : V := .obj 3 [.str (tit i), targs.getD k .nil, .bool o, .lst ks]
noncomputable def HeadsOk : Nat → List V → Prop
 | 0, hs => hs = []
 | d + 1, hs => hs.length ≤ d + 1 ∧ ∀ h ∈ hs, ∃ i k o ks, h = hv i k o ks ∧ i < 10 ∧ k < 4 ∧ (o = true → ks ≠ []) ∧ HeadsOk d ks
noncomputable def OneOk (d : Nat) (h : V) : Prop := ∃ i k o ks, h = hv i k o ks ∧ i < 10 ∧ k < 4 ∧ (o = true → ks ≠ []) ∧ HeadsOk d ks
theorem targ_clo : ∀ k, k < 4 → (targs.getD k .nil).clo = true
 | 0, _ => rfl
 | 1, _ => rfl
 | 2, _ => rfl
 | 3, _ => rfl
 | k + 4, h => absurd h (by omega)
theorem clos_all {l : List V} (h : ∀ v ∈ l, v.clo = true) : clos l = true := by
 induction l with
 | nil => rfl
 | cons v r ih => exact Bool.and_eq_true_iff.mpr ⟨h v (List.mem_cons_self ..), ih fun u hu => h u (List.mem_cons_of_mem _ hu)⟩
theorem heads_clo : ∀ (d : Nat) {hs : List V}, HeadsOk d hs → clos hs = true
 | 0, hs, h => by cases (show hs = [] from h); rfl
 | d + 1, hs, h => clos_all fun v hv => by
  obtain ⟨i, k, o, ks, rfl, _, hk, _, hr⟩ := h.2 v hv
  show (true && ((targs.getD k .nil).clo && (true && (clos ks && true)))) = true
  rw [targ_clo k hk, heads_clo d hr]; rfl
noncomputable def Kept (p : Nat) (st st' : St) : Prop := st.n ≤ st'.n ∧ ∀ j, j < st.n → j ≠ p → st'.f j = st.f j
theorem Kept.refl (p : Nat) (st : St) : Kept p st st := ⟨Nat.le_refl _, fun _ _ _ => rfl⟩
theorem Kept.trans {p : Nat} {a b c : St} (x : Kept p a b) (y : Kept p b c) : Kept p a c := ⟨Nat.le_trans x.1 y.1, fun j hj hp => (y.2 j (ltl hj x.1) hp).trans (x.2 j hj hp)⟩
theorem Ext.kept {p : Nat} {a b : St} (x : Ext a b) : Kept p a b := ⟨x.1, fun j hj _ => x.2 j hj⟩
theorem OnlyAt.kept {p : Nat} {a b : St} (x : OnlyAt p a b) : Kept p a b := ⟨Nat.le_of_eq x.1.symm, fun j _ hp => x.2 j hp⟩
theorem PoolAt.ext {p : Nat} {a b : St} (x : PoolAt p a) (e : Ext a b) (hp : p < a.n) : PoolAt p b := let ⟨xs, h1, h2⟩ := x; ⟨xs, (e.2 p hp).trans h1, h2⟩
section
variable {call : Addr → List V → M V} {q : Bool} {loc up : Loc} {st : St} {Q : V → St → Prop} {xs : List V}
theorem i_tup {k : Int} {j : Nat} {x : V} (hj : idxAt xs.length k = some j) (hx : xs[j]? = some x) (hQ : Q x st) : Runs (idxV .tup (.tup xs) (.int k)) st Q :=
 (Runs.onO rfl (Runs.onO rfl (Runs.onO hj (Runs.onO hx (Runs.pure hQ)))) : Runs (onO (V.tup? (.tup xs)) fun xs => onO (V.int? (.int k)) fun i => onO (idxAt xs.length i) fun j => onO xs[j]? M.pure) st Q)
theorem m_append {i : Nat} {v : V} (h : st.f i = .list xs) (hz : xs.length ≤ 4000) (hQ : Q .nil (st.set i (.list (xs ++ [v])))) : Runs (methV (.ref i) .append [v]) st Q :=
 (Runs.onO (slotL_ref h) (Runs.onP (by show xs.length ≤ 10000000; omega) ⟨_, _, rfl, hQ⟩) : Runs (onO (slotL st (.ref i)) fun p => onP (p.2.length ≤ 10000000) fun st => some (.ok .nil, st.set p.1 (.list (p.2 ++ [v])))) st Q)
theorem y_append {i : Nat} {R : Unit → St → Prop} (h : st.f i = .list xs) (hQ : R () st) : Runs (readyV (.ref i) .append) st R := (Runs.onO (slotL_ref h) (Runs.pure hQ) : Runs (onO (slotL st (.ref i)) fun _ => M.pure ()) st R)
theorem i_tupd {d : Int} {m : Nat} {g : Nat → V} (h0 : 0 ≤ d) (h1 : d < m) (hm : m = xs.length) (hn : m ≤ 4000) (hg : ∀ k, k < m → xs[k]? = some (g k)) (hQ : ∀ k, k < m → Q (g k) st) : Runs (idxV .tup (.tup xs) (.int d)) st Q := by
 obtain ⟨k, rfl⟩ := Int.eq_ofNat_of_zero_le h0
 have hk : k < m := Int.ofNat_lt.mp h1
 subst hm
 exact i_tup (idxAt_nat hk hn) (hg k hk) (hQ k hk)
end
noncomputable def TGs (j : Nat) : List V := [.nil, .obj 0 [.str "d"], .ref j, .obj 1 [.bytes [110], .bool false]]
theorem tgs_at {j : Nat} : ∀ k, k < 4 → (TGs j)[k]? = some ((TGs j).getD k .nil)
 | 0, _ => rfl
 | 1, _ => rfl
 | 2, _ => rfl
 | 3, _ => rfl
 | k + 4, h => absurd h (Nat.not_lt_of_le (Nat.le_add_left 4 k))
theorem targ_tg {st : St} {j : Nat} (hj : j < st.n) (hf : st.f j = .list [.obj 2 [.int 1, .int 0], .obj 0 [.str "Fit"]]) : ∀ k, k < 4 → TG st ((TGs j).getD k .nil) (targs.getD k .nil) ∧ ∀ i, (TGs j).getD k .nil = .ref i → i = j
 | 0, _ => ⟨.inl ⟨rfl, rfl⟩, fun i e => by cases e⟩
 | 1, _ => ⟨.inl ⟨rfl, rfl⟩, fun i e => by cases e⟩
 | 2, _ => ⟨.inr ⟨j, _, rfl, rfl, hj, hf⟩, fun i e => by cases e; rfl⟩
 | 3, _ => ⟨.inl ⟨rfl, rfl⟩, fun i e => by cases e⟩
 | k + 4, h => absurd h (Nat.not_lt_of_le (Nat.le_add_left 4 k))
theorem tit_at : ∀ i, i < 10 → (titles.map V.str)[i]? = some (.str (tit i))
 | 0, _ => rfl
 | 1, _ => rfl
 | 2, _ => rfl
 | 3, _ => rfl
 | 4, _ => rfl
 | 5, _ => rfl
 | 6, _ => rfl
 | 7, _ => rfl
 | 8, _ => rfl
 | 9, _ => rfl
 | i + 10, h => absurd h (by omega)
theorem targets_run {n : Nat} {st : St} {loc : Loc} {Q : V → St → Prop} (h : ∀ st' j, Ext st st' → st.n ≤ j → j < st'.n → st'.f j = .list [.obj 2 [.int 1, .int 0], .obj 0 [.str "Fit"]] → Q (.tup (TGs j)) st') :
  RV1 (callFn T (n + 1) true) true loc Loc.none (.tup (.cons (.lit .nil) (.cons (.new 0 (.cons (.lit (.str "d")) .nil)) (.cons (.lst (.cons (.new 2 (.cons (.lit (.int 1)) (.cons (.lit (.int 0)) .nil))) (.cons (.new 0 (.cons (.lit (.str "Fit")) .nil)) .nil))) (.cons (.new 1 (.cons (.lit (.bytes [110])) .nil)) .nil))))) st Q := by
 refine r_tup (r_cons (r_lit (r_cons (r_new (r_cons (r_lit (r_nil (new_name fun s1 x1 => ?_))))))))
 refine r_cons (r_lst (r_cons (r_new (r_cons (r_lit (r_cons (r_lit (r_nil (new_ref fun s2 x2 => r_cons (r_new (r_cons (r_lit (r_nil (new_name fun s3 x3 => r_nil ⟨show _ ≤ _ from (lbr rfl), ?_⟩))))))))))))))
 refine r_cons (r_new (r_cons (r_lit (r_nil (new_str fun s4 x4 => r_nil ⟨show _ ≤ _ from (lbr rfl), ?_⟩)))))
 have x := (((x1.trans x2).trans x3).push (.list [.obj 2 [.int 1, .int 0], .obj 0 [.str "Fit"]])).trans x4
 refine h s4 s3.n x ((x1.trans x2).trans x3).1 (ltl (lts _) x4.1) ((x4.2 s3.n (lts _)).trans push_f)
theorem l_h {c : Nat} (hc : c ≤ 4000) : (0 : Int) < 1 ∧ (1 : Int) < 1073741824 ∧ (-1099511627776 : Int) < 0 ∧ (0 : Int) < 1099511627776 ∧ (-1099511627776 : Int) < c ∧ (c : Int) < 1099511627776 := by
 refine ⟨by decide, by decide, by decide, by decide, ?_, ?_⟩
 ·exact Int.lt_of_lt_of_le (by decide) (Int.natCast_nonneg c)
 ·exact Int.lt_of_le_of_lt (Int.ofNat_le.mpr hc) (by decide)
theorem l_rng0 {a b s : Int} {st : St} (h : 0 < s ∧ s < 1073741824 ∧ -1099511627776 < a ∧ a < 1099511627776 ∧ -1099511627776 < b ∧ b < 1099511627776) {R : Unit → St → Prop} (hR : R () st) : Runs (lockV .rng (.rng a b s)) st R :=
 (Runs.onP h (Runs.pure hR) : Runs (onP (0 < s ∧ s < 1073741824 ∧ -1099511627776 < a ∧ a < 1099511627776 ∧ -1099511627776 < b ∧ b < 1099511627776) (M.pure ())) st R)
theorem l_rng {c : Nat} {st : St} (hc : c ≤ 4000) {R : Unit → St → Prop} (hR : R () st) : Runs (lockV .rng (.rng 0 c 1)) st R := l_rng0 (l_h hc) hR
section
variable {call : Addr → List V → M V} {q : Bool} {loc up : Loc} {st : St} {Q : V → St → Prop}
theorem r_ite {c a b : E} (h : RB1 call q loc up c st fun t st' => RV1 call q loc up (if t then a else b) st' Q) : RV1 call q loc up (.ite c a b) st Q := Runs.bind (h.mono fun t _ h => by cases t <;> exact h)
theorem b_range {n : Int} (hQ : Q (.rng 0 n 1) st) : Runs (biV q .range1 [.int n]) st Q := Runs.pure hQ
end
noncomputable def KE : E := .ite (.cmp .lt false (.loc 40) (.lit (.int 3))) (.callF 586 (.cons (.loc 56) (.cons (.bin .add (.loc 40) (.lit (.int 1))) .nil))) (.lst .nil)
noncomputable def KidOk (n d p : Nat) : Prop := ∀ (st : St) (loc : Loc) (Q : V → St → Prop), loc 56 = some (.ref p) → loc 40 = some (.int (3 - d)) → PoolAt p st → p < st.n →
 (∀ v st' ks, listOf st' v = some ks → (∀ j, v = .ref j → j < st'.n) → HeadsOk d ks → ks.length ≤ 3 → PoolAt p st' → Kept p st st' → Q v st') → RV1 (callFn T n true) true loc Loc.none KE st Q
theorem heads_len {d : Nat} {hs : List V} (h : HeadsOk d hs) (hd : d ≤ 3) : hs.length ≤ 3 := by
 cases d with
 | zero => cases (show hs = [] from h); exact Nat.zero_le _
 | succ d => exact Nat.le_trans h.1 hd
theorem TG.kept {p : Nat} {st st' : St} {g g' : V} (x : TG st g g') (k : Kept p st st') (hp : ∀ j, g = .ref j → j ≠ p) : TG st' g g' := by
 rcases x with x | ⟨j, ys, rfl, rfl, hj, hf⟩
 ·exact .inl x
 ·exact .inr ⟨j, ys, rfl, rfl, ltl hj k.1, (k.2 j hj (hp j rfl)).trans hf⟩
theorem PoolAt.but {p : Nat} {a b : St} (x : PoolAt p a) (h : b.f p = a.f p) : PoolAt p b := let ⟨xs, h1, h2⟩ := x; ⟨xs, h.trans h1, h2⟩
theorem five_sub {d : Nat} (hd : d + 1 ≤ 3) : (0 : Int) < 5 - (3 - (d : Int)) ∧ 5 - (3 - (d : Int)) < 1073741824 ∧ ∀ c : Nat, (c : Int) < 5 - (3 - (d : Int)) → c ≤ d + 1 := ⟨by omega, by omega, fun c h => by omega⟩
noncomputable def HI (d p : Nat) (st : St) (i : Nat) (loc : Loc) (s : St) : Prop := ∀ C : Prop, (∀ hs, loc 56 = some (.ref p) → loc 40 = some (.int (3 - d)) → loc 19 = some (.ref st.n) → PoolAt p s → Kept p st s → st.n < s.n → s.f st.n = .list hs → hs.length = i → (∀ h ∈ hs, OneOk d h) → C) → C
theorem heads_fn {n d p : Nat} {st : St} {Q : V → St → Prop} (hd : d + 1 ≤ 3) (hk : KidOk (n + 2) d p) (hp : PoolAt p st) (hpn : p < st.n) (hQ : ∀ hs st', HeadsOk (d + 1) hs → PoolAt p st' → Kept p st st' → Q (.lst hs) st') :
  Runs (callFn T (n + 3) true 586 [.ref p, .int (3 - d)]) st Q := by
 refine c_open (fn := f586) rfl rfl rfl ?_
 refine s_cons (s_asg (r_lst (r_nil ⟨Nat.zero_le _, ?_⟩)))
 refine s_cons (s_for (r_bi (r_cons (r_callF (r_cons (r_loc rfl (r_cons (r_bin (r_lit (r_loc rfl (Runs.onO rfl (Runs.onO rfl (Runs.pure (r_nil (take_ok (hp.ext ((Ext.refl st).push _) hpn) (five_sub hd).1 (five_sub hd).2.1 fun c s1 hc0 hc1 only hp1 => ?_)))))))))))))))
 obtain ⟨c, rfl⟩ := Int.eq_ofNat_of_zero_le hc0
 have hc := (five_sub hd).2.2 c hc1
 have nF : st.n ≠ p := Nat.ne_of_gt hpn
 refine r_nil (b_range (l_rng (leK (Nat.le_trans hc hd) rfl) ?_))
 refine for_rng (c := c) (HI d p st) (fun i loc s R hi h hR => h _ fun hs l56 l40 l19 hp kp hn hf hl hall => ?_) (fun loc s h => h _ fun hs l56 l40 l19 hp kp hn hf hl hall => ?_) c fuelW 0 _ s1 (Nat.zero_add _) (fuel_of (Nat.le_trans hc hd) rfl)
  (fun C k => k [] rfl rfl rfl hp1 (((Ext.refl st).push _).kept.trans only.kept) (by rw [only.1]; exact lts _) ((only.2 st.n nF).trans push_f) rfl fun h hh => absurd hh nmn)
 ·have hpm := Nat.lt_trans hpn hn
  refine s_cons (s_asg (r_idx (r_lit (r_callF (r_cons (r_loc l56 (r_cons (r_lit (r_nil (take_ok hp (by decide) (by decide) fun d1 s2 a0 a1 o2 hp2 => ?_))))))))))
  refine i_tupd (m := 10) a0 a1 rfl (by decide) tit_at fun i1 hi1 => ?_
  have hpn2 : p < s2.n := by rw [o2.1]; exact hpm
  refine s_cons (s_asg (r_idx (targets_run fun s3 j x3 hj1 hj2 hj3 => r_callF (r_cons (r_loc l56 (r_cons (r_lit (r_nil (take_ok (hp2.ext x3 hpn2) (by decide) (by decide) fun d2 s4 b0 b1 o4 hp4 => ?_)))))))))
  refine i_tupd (m := 4) b0 b1 rfl (by decide) tgs_at fun i2 hi2 => ?_
  have hjp : j ≠ p := ne_up hpn2 hj1
  have tg := targ_tg (st := s4) (by rw [o4.1]; exact hj2) ((o4.2 j hjp).trans hj3) i2 hi2
  generalize (TGs j).getD i2 .nil = g at tg
  refine s_cons (s_asg (r_cmp (r_callF (r_cons (r_loc l56 (r_cons (r_lit (r_nil (take_ok hp4 (by decide) (by decide) fun d3 s5 c0 c1 o5 hp5 => r_lit (c_eqI ?_))))))))))
  generalize nb false (decide (d3 = 1)) = o
  have k5 : Kept p s s5 := (o2.kept.trans x3.kept).trans (o4.kept.trans o5.kept)
  have F5 : s5.f st.n = .list hs := (k5.2 _ hn nF).trans hf
  have hn5 := ltl hn k5.1
  refine s_cons (s_ex (r_callB (r_loc l19 (y_append F5 (r_cons (r_new (r_cons (r_loc rfl (r_cons (r_loc rfl (r_cons (r_loc rfl (r_cons (hk s5 _ _ l56 l40 hp5 (Nat.lt_trans hpn hn5) fun v s6 ks hks hkn hok hlen hp6 k6 => ?_))))))))))))))
  have hgp : ∀ i, g = .ref i → i ≠ p := fun i e => by rw [tg.2 i e]; exact hjp
  have hFn : st.n < s6.n := ltl hn5 k6.1
  have hgl : ∀ y, y ≤ st.n → g ≠ .ref y := fun y hy e => by
   have := tg.2 y e
   rw [o2.1] at hj1
   exact absurd (ltl hn hj1) (Nat.not_lt_of_le (this ▸ hy))
  refine r_nil (new_head (tg.1.kept (o5.kept.trans k6) hgp) hks hkn (leK hlen rfl) fun s7 b7 => r_nil ?_)
  have F7 : s7.f st.n = .list hs := (b7.2 _ hFn (hgl _ (Nat.le_refl _))).trans ((k6.2 _ hn5 nF).trans F5)
  refine m_append F7 (leK (Nat.le_trans (Nat.le_of_eq hl) (Nat.le_trans (Nat.le_of_lt hi) (Nat.le_trans hc hd))) rfl) (Runs.pure (hR _ _ fun C k => k _ l56 l40 l19 ?_ ?_ (ltl hFn b7.1) set_self (by rw [lApp, hl]; rfl) fun h hh => ?_))
  ·exact hp6.but ((set_ne nF.symm).trans (b7.2 p (Nat.lt_trans hpn hFn) (hgl p (Nat.le_of_lt hpn))))
  ·exact ⟨Nat.le_trans kp.1 (Nat.le_trans k5.1 (Nat.le_trans k6.1 b7.1)), fun y hy hyp => (set_ne (Nat.ne_of_lt hy)).trans ((b7.2 y (Nat.lt_trans hy hFn) (hgl y (Nat.le_of_lt hy))).trans ((kp.trans (k5.trans k6)).2 y hy hyp))⟩
  ·rcases List.mem_append.mp hh with hh | hh
   ·exact hall h hh
   ·exact ⟨i1, i2, _, ks, List.mem_singleton.mp hh, hi1, hi2, (fun e e2 => by subst e2; cases o <;> cases e), hok⟩
 ·refine s_cons (s_ret (r_loc l19 (Runs.pure (r_frzL hf (hQ hs _ ⟨Nat.le_trans (Nat.le_of_eq hl) hc, hall⟩ ?_ ?_)))))
  ·exact hp.but (set_ne nF.symm)
  ·exact ⟨kp.1, fun y hy hyp => (set_ne (Nat.ne_of_lt hy)).trans (kp.2 y hy hyp)⟩
theorem kid0 (n p : Nat) : KidOk n 0 p := fun st loc Q l56 l40 hp hpn hQ =>
 r_ite (r_cmpB (r_loc l40 (r_lit (c_lt (r_lst (r_nil ⟨Nat.zero_le _, hQ _ _ [] (listOf_ref push_f) (fun j e => by cases e; exact lts _) rfl (Nat.zero_le _) (hp.ext ((Ext.refl st).push _) hpn) ((Ext.refl st).push _).kept⟩))))))
theorem kidS {n d p : Nat} (hd : d + 1 < 3) (hk : KidOk (n + 2) d p) : KidOk (n + 3) (d + 1) p := by
 intro st loc Q l56 l40 hp hpn hQ
 refine r_ite (r_cmpB (r_loc l40 (r_lit (c_lt ?_))))
 rw [nbT (p := (3 : Int) - ((d + 1 : Nat) : Int) < 3) (by omega)]
 refine r_callF (r_cons (r_loc l56 (r_cons (r_bin (r_loc l40 (r_lit (Runs.onO rfl (Runs.onO rfl (Runs.pure (r_nil ?_))))))))))
 rw [show (3 : Int) - ((d + 1 : Nat) : Int) + 1 = 3 - (d : Int) by omega]
 exact heads_fn (Nat.le_of_lt hd) hk hp hpn fun hs st' hok hp' k' => hQ _ _ hs rfl (fun j e => by cases e) hok (heads_len hok (Nat.le_of_lt hd)) hp' k'
theorem heads3 {n p : Nat} {st : St} {Q : V → St → Prop} (hp : PoolAt p st) (hpn : p < st.n) (hQ : ∀ hs st', HeadsOk 3 hs → PoolAt p st' → Kept p st st' → Q (.lst hs) st') : Runs (callFn T (n + 5) true 586 [.ref p, .int 1]) st Q :=
 heads_fn (n := n + 2) (d := 2) (by decide) (kidS (n := n + 1) (d := 1) (by decide) (kidS (n := n) (d := 0) (by decide) (kid0 (n + 2) p))) hp hpn hQ
noncomputable def fld (v : V) (i : Nat) : V := (v.obj?.map fun p => p.2.getD i .nil).getD .nil
noncomputable def openOf (v : V) : Bool := (fld v 2).bool?.getD false
noncomputable def kidsOf (v : V) : List V := (fld v 3).lst?.getD []
noncomputable def cnt : Nat → List V → Int
 | 0, _ => 0
 | d + 1, hs => (hs.map fun h => 1 + if openOf h then cnt d (kidsOf h) else 0).sum
theorem clo1 {d : Nat} {hs : List V} (h : HeadsOk d hs) : clos [.lst hs] = true := by show (clos hs && true) = true; rw [heads_clo d h]; rfl
theorem l_lst {xs : List V} {st : St} {R : Unit → St → Prop} (hR : R () st) : Runs (lockV .lst (.lst xs)) st R := (r_onL (xs := xs) rfl (Runs.pure hR) : Runs (onL (.lst xs) fun _ => M.pure ()) st R)
noncomputable def VI (d : Nat) (hs : List V) (r : List V) (loc : Loc) (_ : St) : Prop := ∀ C : Prop, (∀ k, loc 38 = some (.int k) → k + cnt (d + 1) r = cnt (d + 1) hs → (∀ h ∈ r, OneOk d h) → C) → C
theorem vis_step {k a c t : Int} (h : k + (1 + a + c) = t) : k + 1 + a + c = t := by omega
theorem vis_step0 {k c t : Int} (h : k + (1 + 0 + c) = t) : k + 1 + c = t := by omega
theorem vis_ok : ∀ (d n : Nat) (st : St) (hs : List V) (Q : V → St → Prop), HeadsOk d hs → d ≤ 3 → Q (.int (cnt d hs)) st → Runs (callFn T (n + d + 1) true 447 [.lst hs]) st Q := by
 intro d
 induction d with
 | zero =>
  intro n st hs Q h _ hQ
  cases (show hs = [] from h)
  refine c_clo (fn := f447) rfl rfl rfl ?_
  refine s_cons (s_asg (r_lit ?_))
  refine s_cons (s_for (r_loc rfl (l_lst (for_end rfl rfl ?_))))
  exact s_cons (s_ret (r_loc rfl (Runs.pure (Runs.pure ⟨rfl, hQ⟩))))
 | succ d ih =>
  intro n st hs Q h hd hQ
  refine c_clo (fn := f447) rfl (clo1 h) rfl ?_
  refine s_cons (s_asg (r_lit ?_))
  refine s_cons (s_for (r_loc rfl (l_lst ?_)))
  refine for_lst (VI d hs) (fun _ _ _ _ _ => rfl) (fun u r loc s R hI hR => hI _ fun k l38 hk hall => ?_) (fun loc s hI => hI _ fun k l38 hk _ => ?_) hs fuelW 0 _ _ rfl (fuel_of (heads_len h hd) rfl) (fun C k => k 0 rfl (Int.zero_add _) h.2)
  ·obtain ⟨i, j, o, ks, rfl, _, _, _, hok⟩ := hall u (List.mem_cons_self ..)
   refine s_cons (s_asg (r_bin (r_loc l38 (r_lit (Runs.onO rfl (Runs.onO rfl (Runs.pure ?_)))))))
   refine s_cons (s_ife (Runs.of (a := o) (st' := s) rfl ?_))
   have hall2 := fun h hh => hall h (List.mem_cons_of_mem _ hh)
   cases o with
   | false => exact Runs.pure (Runs.pure (hR _ _ fun C c => c _ rfl (vis_step0 hk) hall2))
   | true =>
    refine s_cons (s_asg (r_bin (r_loc rfl (r_callF (r_cons (Runs.of rfl (r_nil (ih n s ks _ hok (Nat.le_of_succ_le hd) ?_))))))))
    exact Runs.onO rfl (Runs.onO rfl (Runs.pure (Runs.pure (Runs.pure (hR _ _ fun C c => c _ rfl (vis_step hk) hall2)))))
  ·refine s_cons (s_ret (r_loc l38 (Runs.pure (Runs.pure ⟨rfl, ?_⟩))))
   rw [← (Int.add_zero k).symm.trans hk] at hQ
   exact hQ
theorem noE_runs {α : Type} {m : M α} {st : St} {Q : α → St → Prop} (h : Runs m st Q) : Runs (noE m) st Q := h.elim fun a h => h.elim fun s h => ⟨a, s, by unfold noE; rw [h.1]; rfl, h.2⟩
theorem compL_succ {q : Bool} {elt : Loc → M V} {cond : Loc → M Bool} {tg : List Nat} {k : FK} {v : V} {N i : Nat} {loc : Loc} {acc : List V} {st : St} {Q : List V → St → Prop} {o : Option V} (hn : nextV st k v i = some o)
  (h : match o with
   | none => q = true ∧ Q acc st
   | some u => ∃ loc', bindT tg u loc = some loc' ∧ Runs (cond loc') st fun b s1 => b = true ∧ Runs (elt loc') s1 fun y s2 => Runs (compL q elt cond tg k v N (i + 1) loc' (acc ++ [y])) s2 Q) : Runs (compL q elt cond tg k v (N + 1) i loc acc) st Q := by
 cases o with
 | none => exact Runs.onO hn (Runs.onP h.1 (Runs.pure h.2))
 | some u => exact h.elim fun l h => Runs.onO hn (Runs.onO h.1 (Runs.bind (noE_runs (h.2.mono fun b s1 h => by
   rw [h.1]; exact Runs.bind (noE_runs h.2)))))
theorem comp_lst {elt : Loc → M V} {cond : Loc → M Bool} {tg : List Nat} {k : FK} {v : V} {xs : List V} {Q : List V → St → Prop} (I : List V → List V → St → Prop) (hn : ∀ r acc s i, I r acc s → nextV s k v i = some xs[i]?)
  (hs : ∀ u r acc loc s (R : V → St → Prop), I (u :: r) acc s → (∀ y s', I r (acc ++ [y]) s' → R y s') → ∃ loc', bindT tg u loc = some loc' ∧ Runs (cond loc') s fun b s1 => b = true ∧ Runs (elt loc') s1 R) (he : ∀ acc s, I [] acc s → Q acc s) :
  ∀ (r : List V) (N i : Nat) (loc : Loc) (acc : List V) (s : St), xs.drop i = r → r.length < N → I r acc s → Runs (compL true elt cond tg k v N i loc acc) s Q
 | _, 0, _, _, _, _, _, hN, _ => absurd hN (Nat.not_lt_zero _)
 | [], N + 1, i, loc, acc, s, hd, _, hI => compL_succ ((hn _ _ _ i hI).trans (congrArg some (List.getElem?_eq_none (List.drop_eq_nil_iff.mp hd)))) ⟨rfl, he acc s hI⟩
 | u :: r, N + 1, i, loc, acc, s, hd, hN, hI =>
  have h1 : xs[i]? = some u := List.head?_drop.symm.trans (congrArg List.head? hd)
  have h2 : xs.drop (i + 1) = r := List.tail_drop.symm.trans (congrArg List.tail hd)
  compL_succ ((hn _ _ _ i hI).trans (congrArg some h1)) <| (hs u r acc loc s _ hI fun y s2 h => h).elim fun l h => ⟨l, h.1, h.2.mono fun b s1 h => ⟨h.1, h.2.mono fun y s2 h => comp_lst I hn hs he r N (i + 1) l (acc ++ [y]) s2 h2 (Nat.lt_of_succ_lt_succ hN) h⟩⟩
theorem intsOf_map : ∀ l : List Int, intsOf (l.map V.int) = some l
 | [] => rfl
 | x :: l => by
  show (some x).bind (fun y => (allOf V.int? (l.map V.int)).map (y :: ·)) = _
  rw [show allOf V.int? (l.map V.int) = some l from intsOf_map l]; rfl
theorem r_comp {call : Addr → List V → M V} {loc up : Loc} {tg : List Nat} {elt it : E} {st : St} {Q : V → St → Prop} (h : RV1 call true loc up it st fun v st' => ∃ xs, listOf st' v = some xs ∧
  Runs (compL true (fun l => (ev2 call true l loc elt).1) (fun _ => M.pure true) tg .lst v fuelW 0 Loc.none []) st' fun ys s => Q (.ref s.n) (s.push (.list ys))) : RV1 call true loc up (.comp .lst elt tg it none) st Q :=
 Runs.bind (h.mono fun v st' ⟨xs, e, h⟩ => Runs.bind (r_onL e (Runs.pure (Runs.bind (h.mono fun ys s h => ⟨_, _, rfl, h⟩)))))
theorem b_sum {st : St} {v : V} {l : List Int} {Q : V → St → Prop} (h : listOf st v = some (l.map .int)) (hQ : Q (.int l.sum) st) : Runs (biV true .sum [v]) st Q :=
 (r_onL h (Runs.onO (intsOf_map l) (Runs.onP rfl (Runs.pure hQ))) : Runs (onL v fun xs => onO (intsOf xs) fun l => onP (true = true) (M.pure (.int l.sum))) st Q)
noncomputable def SMI (d : Nat) (hs : List V) (r : List V) (acc : List V) (_ : St) : Prop := ∀ C : Prop, (∀ l : List Int, acc = l.map .int → l.sum + cnt (d + 1) r = cnt (d + 1) hs → (∀ h ∈ r, OneOk d h) → C) → C
theorem SMI.step {d : Nat} {hs r acc : List V} {u : V} {y : Int} {s : St} {l : List Int} (e : acc = l.map .int) (hl : l.sum + (y + cnt (d + 1) r) = cnt (d + 1) hs) (hall : ∀ h ∈ u :: r, OneOk d h) : SMI d hs r (acc ++ [.int y]) s := fun C k =>
 k (l ++ [y]) (by rw [e, List.map_append]; rfl) (by rw [← hl, List.sum_append, List.sum_cons, List.sum_nil, Int.add_zero, Int.add_assoc]) fun h hh => hall h (List.mem_cons_of_mem _ hh)
theorem seen_ok : ∀ (d n : Nat) (st : St) (hs : List V) (Q : V → St → Prop), HeadsOk d hs → d ≤ 3 → Q (.int (cnt d hs)) st → Runs (callFn T (n + d + 1) true 591 [.lst hs]) st Q := by
 intro d
 induction d with
 | zero => intro n st hs Q h _ hQ; cases (show hs = [] from h); exact ⟨_, _, by kernel_rfl, hQ⟩
 | succ d ih =>
  intro n st hs Q h hd hQ
  refine c_clo (fn := f591) rfl (clo1 h) rfl ?_
  refine s_cons (s_ret (r_bi (r_cons (r_comp (r_loc rfl ⟨hs, rfl, ?_⟩)))))
  refine comp_lst (SMI d hs) (fun _ _ _ _ _ => rfl) ?_ ?_ hs fuelW 0 Loc.none [] _ rfl (fuel_of (heads_len h hd) rfl) (fun C k => k [] rfl (Int.zero_add _) h.2)
  ·intro u r acc loc s R hI hR
   refine hI _ fun l e hl hall => ?_
   refine ⟨_, rfl, Runs.pure ⟨rfl, ?_⟩⟩
   obtain ⟨i, j, o, ks, rfl, _, _, _, hok⟩ := hall u (List.mem_cons_self ..)
   refine r_bin (r_lit (r_ite (Runs.of (a := o) (st' := s) rfl ?_)))
   cases o with
   | false => exact r_lit (Runs.onO rfl (Runs.onO rfl (Runs.pure (hR _ _ (SMI.step e hl hall)))))
   | true => exact r_callF (r_cons (Runs.of rfl (r_nil (ih n s ks _ hok (Nat.le_of_succ_le hd) (Runs.onO rfl (Runs.onO rfl (Runs.pure (hR _ _ (SMI.step e hl hall)))))))))
  ·intro acc s hI
   refine hI _ fun l e hl _ => ?_
   subst e
   refine r_nil (b_sum (listOf_ref push_f) ?_)
   rw [← (Int.add_zero _).symm.trans hl] at hQ
   exact Runs.pure (Runs.pure ⟨rfl, hQ⟩)
noncomputable def FreeP (S : Int → Prop) (a : Int) : Prop := 1 ≤ a ∧ ¬ S a ∧ ∀ b, 1 ≤ b → b < a → S b
noncomputable def free (S : Int → Prop) : Int := (Classical.epsilon (FreeP S))
noncomputable def addS (S : Int → Prop) (l : List Int) : Int → Prop := fun x => S x ∨ x ∈ l
noncomputable def Bnd (S : Int → Prop) : Prop := ∃ B : Nat, ∀ x, S x → x ≤ B
noncomputable def nums : Nat → (Int → Prop) → List Int
 | 0, _ => []
 | k + 1, S => free S :: nums k (addS S [free S])
section
variable {S : Int → Prop} {a b : Int}
theorem FreeP.uniq (x : FreeP S a) (y : FreeP S b) : a = b := by
 rcases Int.lt_trichotomy a b with h | h | h
 ·exact absurd (y.2.2 a x.1 h) x.2.1
 ·exact h
 ·exact absurd (x.2.2 b y.1 h) y.2.1
theorem free_is (h : FreeP S a) : free S = a := (Classical.epsilon_spec (p := FreeP S) ⟨a, h⟩ : FreeP S (free S)).uniq h
theorem free_ex {B : Nat} (h : ∀ x, S x → x ≤ B) : FreeP S (free S) ∧ free S ≤ B + 1 := by
 have key : ∀ k : Nat, (∀ b : Int, 1 ≤ b → b ≤ k → S b) ∨ ∃ a, FreeP S a ∧ a ≤ k := by
  intro k
  induction k with
  | zero => exact .inl fun b h1 h2 => absurd (Int.le_trans h1 h2) (by decide)
  | succ k ih =>
   rcases ih with ih | ⟨a, h1, h2⟩
   ·by_cases hs : S (k + 1 : Int)
    ·exact .inl fun b h1 h2 => (Int.lt_or_eq_of_le h2).elim (fun h => ih b h1 (Int.le_of_lt_add_one h)) fun h => by rw [h]; exact hs
    ·exact .inr ⟨_, ⟨Int.le_add_of_nonneg_left (Int.natCast_nonneg k), hs, fun b h1 h2 => ih b h1 (Int.le_of_lt_add_one h2)⟩, Int.le_refl _⟩
   ·exact .inr ⟨a, h1, Int.le_trans h2 (Int.le_add_of_nonneg_right (by decide : (0 : Int) ≤ 1))⟩
 rcases key (B + 1) with hk | ⟨a, h1, h2⟩
 ·exact absurd (h _ (hk (B + 1 : Int) (Int.le_add_of_nonneg_left (Int.natCast_nonneg B)) (Int.le_refl _))) (Int.not_le.mpr (Int.lt_succ _))
 ·exact ⟨by rw [free_is h1]; exact h1, by rw [free_is h1]; exact h2⟩
theorem Bnd.free (h : Bnd S) : FreeP S (free S) := let ⟨_, h⟩ := h; (free_ex h).1
theorem Bnd.one (h : Bnd S) : Bnd (addS S [Mine.free S]) := by
 obtain ⟨B, h⟩ := h
 refine ⟨B + 1, fun x hx => hx.elim (fun hx => Int.le_trans (h x hx) (Int.le_add_of_nonneg_right (by decide : (0 : Int) ≤ 1))) fun hx => ?_⟩
 rw [List.mem_singleton.mp hx]
 exact (free_ex h).2
end
theorem addS_app (S : Int → Prop) (l m : List Int) : addS (addS S l) m = addS S (l ++ m) := funext fun x => propext ⟨fun h => h.elim (fun h => h.elim .inl fun h => .inr (List.mem_append_left _ h)) fun h => .inr (List.mem_append_right _ h),
 fun h => h.elim (fun h => .inl (.inl h)) fun h => (List.mem_append.mp h).elim (fun h => .inl (.inr h)) .inr⟩
theorem nums_len : ∀ (k : Nat) (S : Int → Prop), (nums k S).length = k
 | 0, _ => rfl
 | k + 1, S => congrArg (· + 1) (nums_len k _)
theorem nums_ok : ∀ (k : Nat) {S : Int → Prop}, Bnd S → (nums k S).Nodup ∧ (∀ x ∈ nums k S, ¬ S x) ∧ Bnd (addS S (nums k S))
 | 0, S, h => ⟨List.nodup_nil, fun x hx => absurd hx (nmn), let ⟨B, h⟩ := h; ⟨B, fun x hx => hx.elim (h x) fun hx => absurd hx (nmn)⟩⟩
 | k + 1, S, h => by
  obtain ⟨h1, h2, h3⟩ := nums_ok k h.one
  rw [addS_app] at h3
  exact ⟨List.nodup_cons.mpr ⟨fun hx => h2 _ hx (.inr (List.mem_singleton.mpr rfl)), h1⟩, fun x hx => (List.mem_cons.mp hx).elim (fun e => by rw [e]; exact h.free.2.1) fun hx hS => h2 x hx (.inl hS), h3⟩
noncomputable def rf (a : Int) : V := .obj 2 [.int a, .int 0]
noncomputable abbrev Es1 := List (DK × V)
noncomputable def octT (t : Str) : List Nat := oct (titles.findIdx fun x => decide (x = t))
noncomputable def octH (h : V) : List Nat := octT ((fld h 0).str?.getD "")
noncomputable def optE (k : Str) (o : Option Int) : Es1 := o.toList.map fun a => (.s k, rf a)
noncomputable def kidE (d : Nat) (h : V) (kas : List Int) : Es1 := if kas.isEmpty then [] else [(.s "First", rf (kas.headD 0)), (.s "Last", rf (kas.getLastD 0)), (.s "Count", .int (if openOf h then cnt d (kidsOf h) else -cnt d (kidsOf h)))]
noncomputable def destE (h : V) : Es1 := if (fld h 1).isNil then [] else [(.s "Dest", fld h 1)]
noncomputable def baseE (h : V) (P : Int) : Es1 := [(.s "Title", .obj 1 [.bytes (octH h), .bool false]), (.s "Parent", rf P)]
noncomputable def itemE (d : Nat) (h : V) (P : Int) (prev next : Option Int) (kas : List Int) : Es1 := baseE h P ++ optE "Prev" prev ++ optE "Next" next ++ kidE d h kas ++ destE h
noncomputable abbrev Lay := List Int × List (Int × Es1)
section
variable (f : List V → Int → (Int → Prop) → Lay) (d : Nat) (P : Int)
noncomputable def layR : List V → List Int → Option Int → (Int → Prop) → Lay
 | [], _, _, _ => ([], [])
 | h :: hs, as, prev, S => ((f (kidsOf h) (as.headD 0) S).1 ++ (layR hs as.tail (some (as.headD 0)) (addS S (f (kidsOf h) (as.headD 0) S).1)).1,
   (f (kidsOf h) (as.headD 0) S).2 ++ (as.headD 0, itemE d h P prev as.tail.head? (nums (kidsOf h).length S)) :: (layR hs as.tail (some (as.headD 0)) (addS S (f (kidsOf h) (as.headD 0) S).1)).2)
end
noncomputable def lay : Nat → List V → Int → (Int → Prop) → Lay
 | 0, _, _, _ => ([], [])
 | d + 1, hs, P, S => (nums hs.length S ++ (layR (lay d) d P hs (nums hs.length S) none (addS S (nums hs.length S))).1, (layR (lay d) d P hs (nums hs.length S) none (addS S (nums hs.length S))).2)
noncomputable def Fresh (S : Int → Prop) (as : List Int) (q : Lay) : Prop := (∀ x ∈ q.1, ¬ S x) ∧ (∀ c ∈ q.2, c.1 ∈ as ∨ c.1 ∈ q.1) ∧ Bnd (addS S q.1)
theorem layR_fresh {f : List V → Int → (Int → Prop) → Lay} {d : Nat} {P : Int} (hf : ∀ ks a S, Bnd S → Fresh S [] (f ks a S)) : ∀ (hs : List V) (as : List Int) (prev : Option Int) (S : Int → Prop), as.length = hs.length → Bnd S → Fresh S as (layR f d P hs as prev S)
 | [], as, prev, S, _, hS => ⟨fun x hx => absurd hx nmn, fun c hc => absurd hc nmn, (nums_ok 0 hS).2.2⟩
 | h :: hs, a :: as, prev, S, hl, hS => by
  obtain ⟨k1, k2, k3⟩ := hf (kidsOf h) a S hS
  obtain ⟨r1, r2, r3⟩ := layR_fresh (d := d) (P := P) hf hs as (some a) _ (Nat.succ.inj hl) k3
  refine ⟨fun x hx => (List.mem_append.mp hx).elim (k1 x) fun hx hs => r1 x hx (.inl hs), fun c hc => ?_, by rw [addS_app] at r3; exact r3⟩
  rcases List.mem_append.mp hc with hc | hc
  ·exact .inr (List.mem_append_left _ ((k2 c hc).elim (fun h => absurd h nmn) id))
  ·rcases List.mem_cons.mp hc with e | hc
   ·exact .inl (by rw [e]; exact List.mem_cons_self ..)
   ·exact (r2 c hc).elim (fun h => .inl (List.mem_cons_of_mem _ h)) fun h => .inr (List.mem_append_right _ h)
theorem lay_fresh : ∀ (d : Nat) (hs : List V) (P : Int) (S : Int → Prop), Bnd S → Fresh S [] (lay d hs P S)
 | 0, hs, P, S, hS => ⟨fun x hx => absurd hx nmn, fun c hc => absurd hc nmn, (nums_ok 0 hS).2.2⟩
 | d + 1, hs, P, S, hS => by
  obtain ⟨n1, n2, n3⟩ := nums_ok hs.length hS
  obtain ⟨r1, r2, r3⟩ := layR_fresh (d := d) (P := P) (lay_fresh d) hs _ none _ (nums_len _ _) n3
  refine ⟨fun x hx => (List.mem_append.mp hx).elim (n2 x) fun hx hs => r1 x hx (.inl hs), fun c hc => .inr (List.mem_append.mpr (r2 c hc)), by rw [addS_app] at r3; exact r3⟩
noncomputable def RowR (G : Int × Es1 → Prop) (f : List V → Int → List Int → List Int → Prop) (d : Nat) (P : Int) : List V → List Int → Option Int → List Int → Prop
 | [], as, _, ns => as = [] ∧ ns = []
 | h :: hs, as, prev, ns => ∃ a ar kas kn rn, as = a :: ar ∧ ns = a :: (kn ++ rn) ∧ G (a, itemE d h P prev ar.head? kas) ∧ f (kidsOf h) a kas kn ∧ RowR G f d P hs ar (some a) rn
noncomputable def Row (G : Int × Es1 → Prop) : Nat → List V → Int → List Int → List Int → Prop
 | 0, hs, _, as, ns => as = [] ∧ ns = []
 | d + 1, hs, P, as, ns => RowR G (Row G d) d P hs as none ns
theorem layR_row {G : Int × Es1 → Prop} {d : Nat} {P : Int} (hf : ∀ ks a S, HeadsOk d ks → Bnd S → (∀ c ∈ (lay d ks a S).2, G c) → ∃ ns, Row G d ks a (nums ks.length S) ns ∧ ns.Nodup ∧ ∀ x ∈ ns, ¬ S x ∧ x ∈ (lay d ks a S).1) :
  ∀ (hs : List V) (as : List Int) (prev : Option Int) (S : Int → Prop), (∀ h ∈ hs, HeadsOk d (kidsOf h)) → as.length = hs.length → as.Nodup → (∀ a ∈ as, S a) → Bnd S → (∀ c ∈ (layR (lay d) d P hs as prev S).2, G c) →
   ∃ ns, RowR G (Row G d) d P hs as prev ns ∧ ns.Nodup ∧ ∀ x ∈ ns, x ∈ as ∨ (¬ S x ∧ x ∈ (layR (lay d) d P hs as prev S).1)
 | [], as, prev, S, _, hl, _, _, _, _ => ⟨[], ⟨List.eq_nil_of_length_eq_zero hl, rfl⟩, List.nodup_nil, fun x hx => absurd hx nmn⟩
 | h :: hs, a :: as, prev, S, hh, hl, hn, hS, hb, hG => by
  obtain ⟨kn, k1, k2, k3⟩ := hf (kidsOf h) a S (hh h (List.mem_cons_self ..)) hb fun c hc => hG c (List.mem_append_left _ hc)
  obtain ⟨_, _, b3⟩ := lay_fresh d (kidsOf h) a S hb
  obtain ⟨n1, n2⟩ := List.nodup_cons.mp hn
  obtain ⟨rn, r1, r2, r3⟩ := layR_row hf hs as (some a) _ (fun x hx => hh x (List.mem_cons_of_mem _ hx)) (Nat.succ.inj hl) n2 (fun x hx => .inl (hS x (List.mem_cons_of_mem _ hx))) b3 fun c hc => hG c (List.mem_append_right _ (List.mem_cons_of_mem _ hc))
  refine ⟨a :: (kn ++ rn), ⟨a, as, _, kn, rn, rfl, rfl, hG _ (List.mem_append_right _ (List.mem_cons_self ..)), k1, r1⟩, ?_, fun x hx => ?_⟩
  ·have hSa := hS a (List.mem_cons_self ..)
   refine List.nodup_cons.mpr ⟨fun hx => ?_, List.nodup_append.mpr ⟨k2, r2, fun x hx y hy e => ?_⟩⟩
   ·rcases List.mem_append.mp hx with hx | hx
    ·exact (k3 a hx).1 hSa
    ·exact (r3 a hx).elim n1 fun h => h.1 (.inl hSa)
   ·subst e
    exact (r3 x hy).elim (fun h => (k3 x hx).1 (hS x (List.mem_cons_of_mem _ h))) fun h => h.1 (.inr (k3 x hx).2)
  ·rcases List.mem_cons.mp hx with e | hx
   ·exact .inl (by rw [e]; exact List.mem_cons_self ..)
   ·rcases List.mem_append.mp hx with hx | hx
    ·exact .inr ⟨(k3 x hx).1, List.mem_append_left _ (k3 x hx).2⟩
    ·exact (r3 x hx).elim (fun h => .inl (List.mem_cons_of_mem _ h)) fun h => .inr ⟨fun hs => h.1 (.inl hs), List.mem_append_right _ h.2⟩
theorem kids_ok {d : Nat} {hs : List V} (h : HeadsOk (d + 1) hs) : ∀ u ∈ hs, HeadsOk d (kidsOf u) := fun u hu => by
 obtain ⟨i, k, o, ks, rfl, _, _, _, hk⟩ := h.2 u hu
 exact hk
theorem lay_row {G : Int × Es1 → Prop} : ∀ (d : Nat) (hs : List V) (P : Int) (S : Int → Prop), HeadsOk d hs → Bnd S → (∀ c ∈ (lay d hs P S).2, G c) → ∃ ns, Row G d hs P (nums hs.length S) ns ∧ ns.Nodup ∧ ∀ x ∈ ns, ¬ S x ∧ x ∈ (lay d hs P S).1
 | 0, hs, P, S, h, hb, hG => by
  cases (show hs = [] from h)
  exact ⟨[], ⟨rfl, rfl⟩, List.nodup_nil, fun x hx => absurd hx nmn⟩
 | d + 1, hs, P, S, h, hb, hG => by
  obtain ⟨n1, n2, n3⟩ := nums_ok hs.length hb
  obtain ⟨ns, h1, h2, h3⟩ := layR_row (lay_row d) hs _ none _ (kids_ok h) (nums_len _ _) n1 (fun a ha => .inr ha) n3 hG
  exact ⟨ns, h1, h2, fun x hx => (h3 x hx).elim (fun hx => ⟨n2 x hx, List.mem_append_left _ hx⟩) fun hx => ⟨fun hs => hx.1 (.inl hs), List.mem_append_right _ hx.2⟩⟩
noncomputable def sz : Nat → Nat | 0 => 0 | d + 1 => (d + 1) * (1 + sz d)
theorem layR_len {d m : Nat} {P : Int} (hf : ∀ ks a S, HeadsOk d ks → (lay d ks a S).1.length ≤ m) : ∀ (hs : List V) (as : List Int) (prev : Option Int) (S : Int → Prop), (∀ h ∈ hs, HeadsOk d (kidsOf h)) → (layR (lay d) d P hs as prev S).1.length ≤ hs.length * m
 | [], _, _, _, _ => Nat.zero_le _
 | h :: hs, as, prev, S, hh => by
  have h1 := hf (kidsOf h) (as.headD 0) S (hh h (List.mem_cons_self ..))
  have h2 := layR_len (P := P) hf hs as.tail (some (as.headD 0)) (addS S (lay d (kidsOf h) (as.headD 0) S).1) fun x hx => hh x (List.mem_cons_of_mem _ hx)
  show (_ ++ _ : List Int).length ≤ (hs.length + 1) * m
  rw [lApp, Nat.succ_mul, Nat.add_comm]
  exact Nat.add_le_add h2 h1
theorem lay_len : ∀ (d : Nat) (hs : List V) (P : Int) (S : Int → Prop), HeadsOk d hs → (lay d hs P S).1.length ≤ sz d
 | 0, _, _, _, _ => Nat.le_refl _
 | d + 1, hs, P, S, h => by
  have h2 := layR_len (P := P) (lay_len d) hs (nums hs.length S) none (addS S (nums hs.length S)) (kids_ok h)
  show (_ ++ _ : List Int).length ≤ (d + 1) * (1 + sz d)
  rw [lApp, nums_len, Nat.mul_add, Nat.mul_one]
  exact Nat.add_le_add h.1 (Nat.le_trans h2 (Nat.mul_le_mul_right _ h.1))
section
variable {test : Loc → M Bool} {body : Loc → M (Fl × Loc)} {Q : Fl × Loc → St → Prop}
theorem whl_inv (I : Nat → Loc → St → Prop) (h : ∀ k loc st (R : Fl × Loc → St → Prop), I k loc st → (∀ k' loc' st', k' < k → I k' loc' st' → R (.next, loc') st') → Runs (test loc) st fun b s1 => (b = true → Runs (body loc) s1 R) ∧ (b = false → Q (.next, loc) s1)) :
  ∀ (N k : Nat) (loc : Loc) (st : St), k < N → I k loc st → Runs (whlL test body N loc) st Q
 | 0, _, _, _, hN, _ => absurd hN (Nat.not_lt_zero _)
 | N + 1, k, loc, st, hN, hI => by
  refine Runs.bind ((h k loc st (fun p s => Runs (turnL (whlL test body N) p) s Q) hI fun k' l s hk hI' => whl_inv I h N k' l s (ltl hk (Nat.le_of_lt_succ hN)) hI').mono fun b s1 h => ?_)
  cases b with
  | false => exact Runs.pure (h.2 rfl)
  | true => exact Runs.bind (h.1 rfl)
end
theorem s_whl {call : Bool → Addr → List V → M V} {q : Bool} {loc : Loc} {st : St} {Q : Fl × Loc → St → Prop} {c : E} {b : Ss} (h : Runs (whlL (fun l => (ev2 (call q) q l Loc.none c).2) (fun l => evSs call q l b) fuelW loc) st Q) : RS1 call q loc (.whl c b) st Q := h
noncomputable def ky (es : Es1) : List DK := es.map (·.1)
section
variable {es : Es1} {k k' : DK} {v : V}
theorem dGet_cons {a : DK} {b : V} {r : Es1} : dGet ((a, b) :: r) k = if a = k then some b else dGet r k := by
 unfold dGet
 rw [List.find?_cons]
 by_cases h : a = k
 ·rw [if_pos h]; dsimp only; rw [decide_eq_true h]; rfl
 ·rw [if_neg h]; dsimp only; rw [decide_eq_false h]
theorem dGet_in : ∀ {es : Es1}, k ∈ ky es → ∃ v, dGet es k = some v ∧ (k, v) ∈ es
 | [], h => absurd h nmn
 | (a, b) :: r, h => by
  rw [dGet_cons]
  by_cases e : a = k
  ·rw [if_pos e]; exact ⟨b, rfl, by rw [e]; exact List.mem_cons_self ..⟩
  ·rw [if_neg e]
   obtain ⟨v, h1, h2⟩ := dGet_in ((List.mem_cons.mp h).resolve_left fun e' => e e'.symm)
   exact ⟨v, h1, List.mem_cons_of_mem _ h2⟩
theorem dGet_out : ∀ {es : Es1}, k ∉ ky es → dGet es k = none
 | [], _ => rfl
 | (a, b) :: r, h => by
  rw [dGet_cons, if_neg (show ¬ a = k from fun e => h (e ▸ List.mem_cons_self ..))]
  exact dGet_out fun h' => h (List.mem_cons_of_mem _ h')
theorem dGet_app : ∀ {es : Es1}, dGet (es ++ [(k', v)]) k = if k ∈ ky es then dGet es k else if k' = k then some v else none
 | [] => by rw [if_neg (show k ∉ ky [] from nmn)]; exact dGet_cons
 | (a, b) :: r => by
  show dGet ((a, b) :: (r ++ _)) k = _
  rw [dGet_cons, dGet_cons, dGet_app]
  by_cases e : a = k
  ·rw [if_pos e, if_pos e, if_pos (show k ∈ ky ((a, b) :: r) from e ▸ List.mem_cons_self ..)]
  ·rw [if_neg e, if_neg e]
   by_cases h : k ∈ ky r
   ·rw [if_pos h, if_pos (show k ∈ ky ((a, b) :: r) from List.mem_cons_of_mem _ h)]
   ·rw [if_neg h, if_neg (show k ∉ ky ((a, b) :: r) from fun h' => (List.mem_cons.mp h').elim (fun e' => e e'.symm) h)]
noncomputable def upd (es : Es1) (k : DK) (v : V) : Es1 := es.map fun e => if e.1 = k then (e.1, v) else e
theorem upd_get : ∀ {es : Es1}, dGet (upd es k v) k' = if k' = k then (dGet es k).map fun _ => v else dGet es k'
 | [] => (ite_self (c := k' = k) none).symm
 | (a, b) :: r => by
  show dGet ((if a = k then (a, v) else (a, b)) :: upd r k v) k' = _
  rw [dGet_cons, dGet_cons]
  by_cases e : a = k
  ·rw [if_pos e, if_pos e, dGet_cons, upd_get]
   subst e
   by_cases h : a = k'
   ·rw [if_pos h, if_pos h.symm]; rfl
   ·rw [if_neg h, if_neg fun e => h e.symm, if_neg fun e => h e.symm, if_neg h]
  ·rw [if_neg e, if_neg e, dGet_cons, upd_get]
   by_cases h : a = k'
   ·subst h; rw [if_pos rfl, if_neg e, if_pos rfl]
   ·rw [if_neg h, if_neg h]
theorem upd_ky : ∀ {es : Es1}, ky (upd es k v) = ky es
 | [] => rfl
 | (a, b) :: r => by
  show (if a = k then (a, v) else (a, b)).1 :: ky (upd r k v) = a :: ky r
  rw [upd_ky]
  by_cases e : a = k
  ·rw [if_pos e]
  ·rw [if_neg e]
theorem any_in (h : k ∈ ky es) : es.any (fun e => decide (e.1 = k)) = true := let ⟨v, _, h2⟩ := dGet_in h; List.any_eq_true.mpr ⟨(k, v), h2, decide_eq_true rfl⟩
theorem dSet_old (h : k ∈ ky es) : dSet es k v = upd es k v := if_pos (any_in h)
theorem dSet_new (h : k ∉ ky es) : dSet es k v = es ++ [(k, v)] := if_neg fun e => by
 obtain ⟨x, h1, h2⟩ := List.any_eq_true.mp e
 exact h (List.mem_map.mpr ⟨x, h1, odt h2⟩)
theorem dSet_get : dGet (dSet es k v) k' = if k' = k then some v else dGet es k' := by
 by_cases h : k ∈ ky es
 ·rw [dSet_old h, upd_get]
  obtain ⟨w, e, _⟩ := dGet_in h
  rw [e]; rfl
 ·rw [dSet_new h, dGet_app]
  by_cases e : k' = k
  ·subst e; rw [if_neg h, if_pos rfl, if_pos rfl]
  ·rw [if_neg e]
   by_cases h' : k' ∈ ky es
   ·rw [if_pos h']
   ·rw [if_neg h', if_neg (show ¬ k = k' from fun e' => e e'.symm), dGet_out h']
theorem dSet_mem {e : DK × V} (h : e ∈ dSet es k v) : e ∈ es ∨ e = (k, v) := by
 by_cases h' : k ∈ ky es
 ·rw [dSet_old h'] at h
  obtain ⟨x, h1, h2⟩ := List.mem_map.mp h
  by_cases e' : x.1 = k
  ·rw [if_pos e'] at h2; exact .inr (by rw [← h2, e'])
  ·rw [if_neg e'] at h2; exact .inl (h2 ▸ h1)
 ·rw [dSet_new h'] at h
  exact (List.mem_append.mp h).imp id List.mem_singleton.mp
theorem dSet_len : (dSet es k v).length ≤ es.length + 1 := by
 by_cases h' : k ∈ ky es
 ·rw [dSet_old h']; exact Nat.le_succ_of_le (Nat.le_of_eq (List.length_map ..))
 ·rw [dSet_new h']; exact Nat.le_of_eq (lApp ..)
theorem kind_of (h : ∀ e ∈ es, e.1.kind = k.kind) : sameKind k es = true := List.all_eq_true.mpr fun e he => beq_iff_eq.mpr (h e he)
theorem kind_ky {ks : List Int} {a : Int} (h : ky es = ks.map .i) : sameKind (.i a) es = true := kind_of fun e he => by
 have := List.mem_map_of_mem (f := (·.1)) he
 rw [show List.map (·.1) es = _ from h] at this
 obtain ⟨x, _, e⟩ := List.mem_map.mp this
 rw [← e]; rfl
theorem mem_ky {ks : List Int} {a : Int} (h : ky es = ks.map .i) : DK.i a ∈ ky es ↔ a ∈ ks := by
 rw [h]
 exact ⟨fun h => by obtain ⟨x, h1, h2⟩ := List.mem_map.mp h; cases h2; exact h1, fun h => List.mem_map_of_mem h⟩
theorem len_ky {ks : List Int} (h : ky es = ks.map .i) : es.length = ks.length := by have := congrArg List.length h; rwa [ky, List.length_map, List.length_map] at this
end
section
variable {st : St} {i : Nat} {es : Es1} {k : DK} {kv x : V} {q : Bool}
theorem dictAt_of (h : st.f i = .dict es) : dictAt st (.ref i) = some (i, es) := by show ((st.f i).dict?).map _ = _; rw [h]; rfl
theorem x_dct {R : Unit → St → Prop} (h : st.f i = .dict es) (hk : kv.toKey = some k) (hs : sameKind k es = true) (hz : es.length ≤ 4000) (hQ : R () (st.set i (.dict (dSet es k x)))) : Runs (setIdxV .dct (.ref i) kv x) st R :=
 (Runs.onO (dictAt_of h) (Runs.onO hk (Runs.onP ⟨hs, Nat.le_trans hz (by decide)⟩ ⟨(), _, rfl, hQ⟩)) :
  Runs (onO (dictAt st (.ref i)) fun p => onO kv.toKey fun k => onP (sameKind k p.2 = true ∧ p.2.length ≤ 1000000) fun st => some (.ok (), st.set p.1 (.dict (dSet p.2 k x)))) st R)
theorem c_inD {n : Bool} {B : Bool → St → Prop} (h : st.f i = .dict es) (hk : kv.toKey = some k) (hs : sameKind k es = true) (hQ : B (nb n (dGet es k).isSome) st) : Runs (cmpV .inD n kv (.ref i)) st B :=
 (r_onK (dictR_of h) hk hs (Runs.pure hQ) : Runs (onK (.ref i) kv fun es dk => M.pure (nb n (dGet es dk).isSome)) st B)
theorem m_get1 {Q : V → St → Prop} (h : st.f i = .dict es) (hk : kv.toKey = some k) (hs : sameKind k es = true) (hQ : Q ((dGet es k).getD .nil) st) : Runs (methV (.ref i) .get1 [kv]) st Q :=
 (r_onK (dictR_of h) hk hs (Runs.pure hQ) : Runs (onK (.ref i) kv fun es dk => M.pure ((dGet es dk).getD .nil)) st Q)
theorem y_get1 {R : Unit → St → Prop} (h : st.f i = .dict es) (hQ : R () st) : Runs (readyV (.ref i) .get1) st R :=
 (Runs.onO (dictR_of h) (Runs.pure hQ) : Runs (onO (dictR st (.ref i)) fun _ => M.pure ()) st R)
theorem i_dct {Q : V → St → Prop} (h : dictR st (.ref i) = some (i, es)) (hk : kv.toKey = some k) (hs : sameKind k es = true) (hx : dGet es k = some x) (hQ : Q x st) : Runs (idxV .dct (.ref i) kv) st Q :=
 (r_onK h hk hs (Runs.onO hx (Runs.pure hQ)) : Runs (onK (.ref i) kv fun es dk => onO (dGet es dk) M.pure) st Q)
theorem b_sortDI {Q : V → St → Prop} {l : List Int} (hd : dictR st (.ref i) = some (i, es)) (hl : intsOf (dkeys es) = some l) (hz : es.length < 64) (hQ : Q (.ref st.n) (st.push (.list ((isort intLe l).map .int)))) : Runs (biV true .sortDI [.ref i]) st Q :=
 (Runs.onP rfl (Runs.onO hd (Runs.onO hl (Runs.onP hz ⟨_, _, rfl, hQ⟩)) : Runs (fun st => onO (dictR st (.ref i)) (fun p => onO (intsOf (dkeys p.2)) fun l => onP (p.2.length < 64) (mPush (.list ((isort intLe l).map .int)))) st) st Q) :
  Runs (onP (true = true) fun st => onO (dictR st (.ref i)) (fun p => onO (intsOf (dkeys p.2)) fun l => onP (p.2.length < 64) (mPush (.list ((isort intLe l).map .int)))) st) st Q)
theorem r_dct {call : Addr → List V → M V} {loc up : Loc} {ks : List DK} {vs : Es} {Q : V → St → Prop} (hk : ks.Nodup ∧ ks.length ≤ 15 ∧ (ks.all DK.isS = true ∨ ks.all DK.isI = true)) (h : RL1 call q loc up vs st fun xs st' => ks.length = xs.length ∧ Q (.ref st'.n) (st'.push (.dict (ks.zip xs)))) : RV1 call q loc up (.dct ks vs) st Q :=
 Runs.bind (h.mono fun _ _ h => Runs.onP ⟨h.1, hk⟩ ⟨_, _, rfl, h.2⟩)
end
theorem r_ret {v : V} {st : St} {Q : V → St → Prop} (h : slotL st v = none) (hQ : Q v st) : Runs (retV false (.ret v)) st Q := r_frz h hQ
theorem Kept.set {t : Nat} {st : St} {o : Ob} : Kept t st (st.set t o) := ⟨Nat.le_refl _, fun j _ hj => set_ne hj⟩
noncomputable def sh (t r : Nat) : V := .obj 4 [.ref t, .ref r]
noncomputable def Bd (ks : List Int) : Prop := ks.length ≤ 60 ∧ ∀ x ∈ ks, x ≤ 9 + (ks.length : Int)
theorem put_ok {n t r : Nat} {a g : Int} {v : V} {st : St} {es : Es1} {Q : V → St → Prop} (hT : st.f t = .dict es) (hs : sameKind (.i a) es = true) (hz : es.length ≤ 4000) (hQ : Q .nil (st.set t (.dict (dSet es (.i a) (.tup [.int g, v]))))) :
  Runs (callFn T (n + 1) true 327 [sh t r, .int a, .int g, v]) st Q := by
 refine c_open (fn := f327) rfl rfl rfl ?_
 exact s_cons (s_asgIdx (r_tup (r_cons (r_loc rfl (r_cons (r_loc rfl (r_nil ⟨(lbr rfl), Runs.of rfl (r_loc rfl (x_dct hT rfl hs hz (Runs.pure (Runs.pure hQ))))⟩)))))))
theorem numbers_ok {n t r : Nat} {st : St} {es : Es1} {ks : List Int} {Q : V → St → Prop} (hT : st.f t = .dict es) (hK : ky es = ks.map .i) (hz : ks.length < 64) (hQ : Q (.ref st.n) (st.push (.list ((isort intLe ks).map .int)))) :
  Runs (callFn T (n + 1) true 348 [sh t r]) st Q := by
 refine c_open (fn := f348) rfl rfl rfl ?_
 refine s_cons (s_ret (r_bi (r_cons (Runs.of rfl (r_nil ?_)))))
 have hk : dkeys es = ks.map .int := by
  show List.map (fun e => e.1.toV) es = _
  rw [show (fun e : DK × V => e.1.toV) = DK.toV ∘ (·.1) from rfl, ← List.map_map, show List.map (·.1) es = _ from hK, List.map_map]; rfl
 exact b_sortDI (dictR_of hT) (by rw [hk]; exact intsOf_map ks) (by rw [len_ky hK]; exact hz) (Runs.pure (Runs.pure hQ))
noncomputable def AI (t r : Nat) (v : V) (F : Int) (st : St) (k : Nat) (loc : Loc) (s : St) : Prop := ∀ C : Prop, (∀ a : Int, loc 2 = some (sh t r) → loc 13 = some v → loc 7 = some (.int a) → 1 ≤ a → a + k = F → s = st → C) → C
theorem ai_step {a F : Int} {k : Nat} (ha : 1 ≤ a) (hk : a + ((k + 1 : Nat) : Int) = F) : 1 ≤ a + 1 ∧ a + 1 + k = F := ⟨by omega, by omega⟩
theorem ai_end {a F : Int} {k : Nat} (hk : a + (k : Int) = F) (h : ¬ F = a) : a < F := by omega
theorem ai_go {F : Int} {m : Nat} (h1 : 1 ≤ F) (h2 : F ≤ ((9 + m : Nat) : Int) + 1) (hm : m ≤ 60) : (F - 1).toNat < fuelW ∧ 1 + ((F - 1).toNat : Int) = F := ⟨by unfold fuelW; omega, by omega⟩
theorem free_bd {ks : List Int} {S : Int → Prop} (hS : ∀ x, x ∈ ks ↔ S x) (hB : ∀ x ∈ ks, x ≤ 9 + (ks.length : Int)) : FreeP S (free S) ∧ free S ≤ ((9 + ks.length : Nat) : Int) + 1 := free_ex (B := 9 + ks.length) fun x hx => by rw [Int.natCast_add]; exact hB x ((hS x).mpr hx)
theorem add_ok {n t r : Nat} {v : V} {st : St} {es : Es1} {ks : List Int} {S : Int → Prop} {Q : V → St → Prop} (hT : st.f t = .dict es) (hK : ky es = ks.map .i) (hS : ∀ x, x ∈ ks ↔ S x) (hB : Bd ks) (ht : t < st.n)
  (hQ : ∀ st', st'.f t = .dict (es ++ [(.i (free S), .tup [.int 0, v])]) → Kept t st st' → Q (rf (free S)) st') : Runs (callFn T (n + 2) true 334 [sh t r, v]) st Q := by
 have F := free_bd hS hB.2
 have hz : es.length ≤ 4000 := by rw [len_ky hK]; exact leK hB.1 rfl
 have hgo := ai_go F.1.1 F.2 hB.1
 refine c_open (fn := f334) rfl rfl rfl ?_
 refine s_cons (s_asg (r_lit ?_))
 refine s_cons (s_whl (whl_inv (AI t r v (free S) st) (fun k loc s R h hR => h _ fun a l2 l13 l7 ha hk e => ?_) fuelW (free S - 1).toNat _ st hgo.1 (fun C k => k 1 rfl rfl rfl (Int.le_refl _) hgo.2 rfl)))
 cases e
 refine r_cmpB (r_loc l7 (r_attr (r_loc l2 (Runs.of rfl (c_inD hT rfl (kind_ky hK) ⟨fun hb => ?_, fun hb => ?_⟩)))))
 ·have hSa : S a := (hS a).mp ((mem_ky hK).mp (Classical.byContradiction fun h => by rw [dGet_out h] at hb; cases hb))
  cases k with
  | zero => exact absurd (by rw [← hk]; exact ((Int.add_zero a).symm ▸ hSa)) F.1.2.1
  | succ k => exact s_cons (s_asg (r_bin (r_loc l7 (r_lit (Runs.onO rfl (Runs.onO rfl (Runs.pure (Runs.pure (hR k _ _ (lts k) fun C c => c (a + 1) l2 l13 rfl (ai_step ha hk).1 (ai_step ha hk).2 rfl)))))))))
 ·have hSa : ¬ S a := fun h => by
   obtain ⟨w, e, _⟩ := dGet_in ((mem_ky hK).mpr ((hS a).mpr h))
   rw [e] at hb; cases hb
  have hk0 : free S = a := Classical.byContradiction fun h => hSa (F.1.2.2 a ha (ai_end hk h))
  rw [hk0] at hQ
  refine s_cons (s_asgIdx (r_tup (r_cons (r_lit (r_cons (r_loc l13 (r_nil ⟨(lbr rfl), r_attr (r_loc l2 (Runs.of rfl (r_loc l7 (x_dct hT rfl (kind_ky hK) hz ?_))))⟩)))))))
  rw [dSet_new fun h => hSa ((hS a).mp ((mem_ky hK).mp h))]
  exact s_cons (s_ret (r_new (r_cons (r_loc l7 (r_cons (r_lit (r_nil (new_ref fun s x => Runs.pure (r_ret rfl (hQ s ((x.2 t ht).trans set_self) (Kept.set.trans x.kept)))))))))))
theorem set_set {st : St} {i : Nat} {a b : Ob} : (st.set i a).set i b = st.set i b := congrArg (St.mk st.n) (funext fun j => by
 show (if j = i then b else if j = i then a else st.f j) = if j = i then b else st.f j
 by_cases h : j = i
 ·rw [if_pos h, if_pos h]
 ·rw [if_neg h, if_neg h, if_neg h])
theorem set_id {st : St} {i : Nat} {a : Ob} (h : st.f i = a) : st.set i a = st := congrArg (St.mk st.n) (funext fun j => by
 show (if j = i then a else st.f j) = st.f j
 by_cases e : j = i
 ·rw [if_pos e, e, h]
 ·rw [if_neg e])
noncomputable def Keys (es : Es1) (KS : List DK) : Prop := es.length ≤ KS.length ∧ ∀ k ∈ ky es, k ∈ KS
noncomputable def keyOk (KS : List DK) (k : DK) : Bool := KS.all DK.isS && k.isS && !KS.contains k && decide (KS.length ≤ 100)
section
variable {es : Es1} {KS : List DK} {k : DK} {v : V}
theorem isS_kind : ∀ {k : DK}, k.isS = true → k.kind = 0
 | .s _, _ => rfl
theorem Keys.same (h : Keys es KS) (h1 : KS.all DK.isS = true) (h2 : k.isS = true) : sameKind k es = true := kind_of fun e he => by
 rw [isS_kind h2]; exact isS_kind (List.all_eq_true.mp h1 _ (h.2 _ (List.mem_map_of_mem he)))
theorem Keys.step (h : Keys es KS) (hk : keyOk KS k = true) : sameKind k es = true ∧ es.length ≤ 4000 ∧ dSet es k v = es ++ [(k, v)] ∧ Keys (es ++ [(k, v)]) (KS ++ [k]) := by
 obtain ⟨h123, h4⟩ := andS hk
 obtain ⟨h12, h3⟩ := andS h123
 obtain ⟨h1, h2⟩ := andS h12
 refine ⟨h.same h1 h2, Nat.le_trans h.1 (Nat.le_trans (odt h4) (by decide)), dSet_new fun h' => ?_, ?_, fun a ha => ?_⟩
 ·rw [List.contains_iff_mem.mpr (h.2 _ h')] at h3; cases h3
 ·rw [lApp, lApp]; exact Nat.succ_le_succ h.1
 ·rw [ky, List.map_append] at ha
  exact List.mem_append.mpr ((List.mem_append.mp ha).imp (h.2 a) id)
theorem Keys.app (h : Keys es KS) : Keys es (KS ++ [k]) := ⟨Nat.le_trans h.1 (by rw [lApp]; exact Nat.le_add_right ..), fun a ha => List.mem_append_left _ (h.2 a ha)⟩
end
noncomputable def optV (k : DK) (o : Option V) : Es1 := o.toList.map fun v => (k, v)
section
variable {call : Bool → Addr → List V → M V} {q : Bool} {loc : Loc} {st : St} {Q : Fl × Loc → St → Prop} {c e : E} {i x : Nat} {es : Es1} {KS : List DK} {k : Str} {o : Option V}
theorem s_opt (hl : loc x = some (.ref i)) (hd : st.f i = .dict es) (hK : Keys es KS) (hk : keyOk KS (.s k) = true) (hc : ∀ B : Bool → St → Prop, B o.isSome st → RB1 (call q) q loc Loc.none c st B) (he : ∀ v, o = some v → ∀ R : V → St → Prop, R v st → RV1 (call q) q loc Loc.none e st R)
  (hQ : Keys (es ++ optV (.s k) o) (KS ++ [.s k]) → Q (.next, loc) (st.set i (.dict (es ++ optV (.s k) o)))) : RS1 call q loc (.ife c (.cons (.asgIdx .dct (.loc x) (.lit (.str k)) e) .nil) .nil) st Q := by
 refine s_ife (hc _ ?_)
 cases o with
 | none =>
  rw [show es ++ optV (.s k) none = es from List.append_nil es, set_id hd] at hQ
  exact Runs.pure (hQ hK.app)
 | some v =>
  obtain ⟨h1, h2, h3, h4⟩ := hK.step (v := v) hk
  refine s_cons (s_asgIdx (he v rfl _ (r_loc hl (r_lit (x_dct hd rfl h1 h2 ?_)))))
  rw [h3]
  exact Runs.pure (hQ h4)
end
theorem idxAt_last {n : Nat} (h : 0 < n) (hn : n ≤ 4000) : idxAt n (-1) = some (n - 1) := by
 unfold idxAt
 rw [if_neg (by omega), if_neg (by omega), if_pos (by omega)]
 exact congrArg some (by omega)
theorem rf_head {as : List Int} (h0 : as ≠ []) : (as.map rf)[0]? = some (rf (as.headD 0)) := by cases as with | nil => exact absurd rfl h0 | cons a r => rfl
theorem rf_last {as : List Int} (h0 : as ≠ []) : (as.map rf)[(as.map rf).length - 1]? = some (rf (as.getLastD 0)) := by
 rw [← List.getLast?_eq_getElem?, List.getLast?_map]
 cases as with | nil => exact absurd rfl h0 | cons a r => rw [List.getLast?_cons, List.getLastD_cons, List.getLastD_eq_getLast?]; rfl
theorem link_ok {n i : Nat} {st : St} {es : Es1} {KS : List DK} {as : List Int} {Q : V → St → Prop} (h0 : as ≠ []) (hz : as.length ≤ 4000) (hd : st.f i = .dict es) (hK : Keys es KS) (h1 : keyOk KS (.s "First") = true) (h2 : keyOk (KS ++ [.s "First"]) (.s "Last") = true)
  (hQ : Keys (es ++ [(.s "First", rf (as.headD 0))] ++ [(.s "Last", rf (as.getLastD 0))]) (KS ++ [.s "First"] ++ [.s "Last"]) → Q .nil (st.set i (.dict (es ++ [(.s "First", rf (as.headD 0))] ++ [(.s "Last", rf (as.getLastD 0))])))) :
  Runs (callFn T (n + 1) true 459 [.ref i, .lst (as.map rf)]) st Q := by
 have hz' : (as.map rf).length ≤ 4000 := by rw [List.length_map]; exact hz
 have hp : 0 < (as.map rf).length := by rw [List.length_map]; exact List.length_pos_iff.mpr h0
 obtain ⟨a1, a2, a3, a4⟩ := hK.step (v := rf (as.headD 0)) h1
 obtain ⟨b1, b2, b3, b4⟩ := a4.step (v := rf (as.getLastD 0)) h2
 refine c_open (fn := f459) rfl rfl rfl ?_
 refine s_cons (s_asgIdx (r_idx (r_loc rfl (r_lit (i_lst rfl (idxAt_nat (k := 0) hp hz') (rf_head h0) (r_loc rfl (r_lit (x_dct hd rfl a1 a2 ?_))))))))
 rw [a3]
 refine s_cons (s_asgIdx (r_idx (r_loc rfl (Runs.of rfl (i_lst rfl (idxAt_last hp hz') (rf_last h0) (r_loc rfl (r_lit (x_dct set_self rfl b1 b2 ?_))))))))
 rw [b3, set_set]
 exact Runs.pure (Runs.pure (hQ b4))
noncomputable def Bd2 (ks : List Int) : Prop := ∀ x ∈ ks, x ≤ 9 + (ks.length : Int)
noncomputable def Cell (b t : Nat) (s : St) (es : Es1) (c : Int × Es1) : Prop := ∀ C : Prop, (∀ j, dGet es (.i c.1) = some (.tup [.int 0, .ref j]) → b ≤ j → j < s.n → j ≠ t → s.f j = .dict c.2 → C) → C
noncomputable def Laid (t : Nat) (s : St) (es : Es1) (ks A : List Int) (q : Lay) (s' : St) (es' : Es1) : Prop := ∀ C : Prop, (s'.f t = .dict es' → ky es' = (ks ++ q.1).map .i → Bd2 (ks ++ q.1) → Kept t s s' → (∀ k ∈ ks, k ∉ A → dGet es' (.i k) = dGet es (.i k)) → (∀ c ∈ q.2, Cell s.n t s' es' c) → C) → C
theorem Cell.mono {b b' t : Nat} {s s' : St} {es es' : Es1} {c : Int × Es1} (h : Cell b t s es c) (hb : b' ≤ b) (k : Kept t s s') (e : dGet es' (.i c.1) = dGet es (.i c.1)) : Cell b' t s' es' c := fun C m =>
 h _ fun j h1 h0 h2 h3 h4 => m j (e.trans h1) (Nat.le_trans hb h0) (ltl h2 k.1) h3 ((k.2 j h2 h3).trans h4)
theorem Bd2.snoc {ks : List Int} {a : Int} (h : Bd2 ks) (ha : a ≤ ((9 + ks.length : Nat) : Int) + 1) : Bd2 (ks ++ [a]) := fun x hx => by
 rw [Int.natCast_add] at ha
 rw [lApp]
 have e : 9 + ((ks.length + [a].length : Nat) : Int) = 9 + (ks.length : Int) + 1 := by rw [Int.natCast_add, ← Int.add_assoc]; rfl
 rw [e]
 exact (List.mem_append.mp hx).elim (fun h' => Int.le_trans (h x h') (Int.le_add_of_nonneg_right (by decide : (0 : Int) ≤ 1))) fun h' => by rw [List.mem_singleton.mp h']; exact ha
theorem Laid.step {t j : Nat} {s s1 s2 s3 : St} {es es1 es3 it : Es1} {ks : List Int} {a : Int} {ar : List Int} {qk qr : Lay} {S : Int → Prop} (hS : ∀ x, x ∈ ks ↔ S x) (hS' : ∀ b ∈ a :: ar, S b) (ha : a ∉ ar) (hf : Fresh S [] qk)
  (h1 : Laid t s es ks [] qk s1 es1) (h2 : Kept t s1 s2) (j0 : s.n ≤ j) (j1 : j < s2.n) (j2 : j ≠ t) (j3 : s2.f j = .dict it)
  (h6 : Laid t s2 (dSet es1 (.i a) (.tup [.int 0, .ref j])) (ks ++ qk.1) ar qr s3 es3) : Laid t s es ks (a :: ar) (qk.1 ++ qr.1, qk.2 ++ (a, it) :: qr.2) s3 es3 := fun C m =>
 h1 _ fun _ _ _ a4 a5 a6 => h6 _ fun b1 b2 b3 b4 b5 b6 => by
  have hSa := hS' a (List.mem_cons_self ..)
  have hg : ∀ k, k ≠ a → dGet (dSet es1 (.i a) (.tup [.int 0, .ref j])) (.i k) = dGet es1 (.i k) := fun k hk => by rw [dSet_get, if_neg fun e => hk (by cases e; rfl)]
  rw [List.append_assoc] at b2 b3
  refine m b1 b2 b3 ((a4.trans h2).trans b4) (fun k hk hn => ?_) fun c hc => ?_
  ·rw [b5 k (List.mem_append_left _ hk) fun h => hn (List.mem_cons_of_mem _ h), hg k fun e => hn (e ▸ List.mem_cons_self ..), a5 k hk nmn]
  ·rcases List.mem_append.mp hc with hc | hc
   ·have hn : c.1 ∈ qk.1 := (hf.2.1 c hc).resolve_left nmn
    have hnS := hf.1 _ hn
    refine (a6 c hc).mono (Nat.le_refl _) (h2.trans b4) ?_
    rw [b5 c.1 (List.mem_append_right _ hn) fun h => hnS (hS' _ (List.mem_cons_of_mem _ h)), hg _ fun e => hnS (by rw [e]; exact hSa)]
   ·rcases List.mem_cons.mp hc with e | hc
    ·subst e
     have hc : Cell s.n t s2 (dSet es1 (.i a) (.tup [.int 0, .ref j])) (a, it) := fun C m => m j (by rw [dSet_get, if_pos rfl]) j0 j1 j2 j3
     exact hc.mono (Nat.le_refl _) b4 (b5 a (List.mem_append_left _ ((hS a).mpr hSa)) ha)
    ·exact (b6 c hc).mono (a4.trans h2).1 (Kept.refl t s3) rfl
theorem Kept.push {t : Nat} {a b : St} {o : Ob} (k : Kept t a b) : Kept t a (b.push o) := k.trans ((Ext.refl b).push o).kept
theorem push_ne {s : St} {t : Nat} {o : Ob} (h : t < s.n) : (s.push o).f t = s.f t := if_neg (Nat.ne_of_lt h)
theorem Laid.refl {t : Nat} {s s' : St} {es : Es1} {ks A : List Int} (hT : s'.f t = .dict es) (hK : ky es = ks.map .i) (hB : Bd2 ks) (k : Kept t s s') : Laid t s es ks A ([], []) s' es := fun C m =>
 m hT (by rw [List.append_nil]; exact hK) (by rw [List.append_nil]; exact hB) k (fun _ _ _ => rfl) fun c hc => absurd hc nmn
theorem Kept.over {t j : Nat} {s0 s s1 : St} {ob : Ob} (h0 : Kept t s0 s) (h : Kept t s s1) (hj0 : s0.n ≤ j) : Kept t s0 (s1.set j ob) := ⟨Nat.le_trans h0.1 h.1, fun x hx hxt => (set_ne (ne_low hx hj0)).trans ((h0.trans h).2 x hx hxt)⟩
theorem Laid.under {t j : Nat} {s0 s s1 : St} {es es1 : Es1} {ks A : List Int} {q : Lay} (h : Laid t s es ks A q s1 es1) (h0 : Kept t s0 s) (hj0 : s0.n ≤ j) (hjn : j < s.n) (hjt : j ≠ t) (ob : Ob) : Laid t s0 es ks A q (s1.set j ob) es1 := fun C m =>
 h _ fun a1 a2 a3 a4 a5 a6 => m ((set_ne hjt.symm).trans a1) a2 a3 (h0.over a4 hj0) a5 fun c hc D k => a6 c hc _ fun y y1 y0 y2 y3 y4 => k y y1 (Nat.le_trans h0.1 y0) y2 y3 ((set_ne (ne_up hjn y0)).trans y4)
theorem lay_nil (d : Nat) (P : Int) (S : Int → Prop) : lay d [] P S = ([], []) := by cases d <;> rfl
theorem vis_ok4 {d n : Nat} {st : St} {hs : List V} {Q : V → St → Prop} (h : HeadsOk d hs) (hd : d ≤ 3) (hQ : Q (.int (cnt d hs)) st) : Runs (callFn T (n + 4) true 447 [.lst hs]) st Q := by
 have := vis_ok d (n + (3 - d)) st hs Q h hd hQ
 rwa [show n + (3 - d) + d + 1 = n + 4 from congrArg (· + 1) ((Nat.add_assoc ..).trans (congrArg (n + ·) (Nat.sub_add_cancel hd)))] at this
theorem mem_snoc {ks : List Int} {S : Int → Prop} {a : Int} (hS : ∀ x, x ∈ ks ↔ S x) : ∀ x, x ∈ ks ++ [a] ↔ addS S [a] x := fun x => List.mem_append.trans (or_congr_left (hS x))
theorem o_add {x y : Int} {st : St} {Q : V → St → Prop} (h : Q (.int (x + y)) st) : Runs (opV .add (.int x) (.int y)) st Q := Runs.pure h
theorem o_sub {x y : Int} {st : St} {Q : V → St → Prop} (h : Q (.int (x - y)) st) : Runs (opV .sub (.int x) (.int y)) st Q := Runs.pure h
theorem ky_snoc {es : Es1} {ks : List Int} {a : Int} {v : V} (h : ky es = ks.map .i) : ky (es ++ [(.i a, v)]) = (ks ++ [a]).map .i := by
 rw [ky, List.map_append, show List.map (·.1) es = _ from h, List.map_append]; rfl
theorem al_len {k n m : Nat} {S S' : Int → Prop} {al : List Int} (e : nums n S = al ++ nums m S') (hz : k + n ≤ 60) : k + al.length ≤ 60 := by
 have := congrArg List.length e
 rw [lApp, nums_len, nums_len] at this
 exact Nat.le_trans (Nat.add_le_add_left (this ▸ Nat.le_add_right ..) k) hz
noncomputable def PI (t : Nat) (st : St) (es : Es1) (ks : List Int) (S : Int → Prop) (m : Nat) (r acc : List V) (s : St) : Prop := ∀ C : Prop, (∀ al S' es', acc = al.map rf → nums m S = al ++ nums r.length S' → (∀ x, x ∈ ks ++ al ↔ S' x) → Laid t st es ks [] (al, []) s es' → C) → C
theorem places_ok {n t r : Nat} {loc : Loc} {hs : List V} {st : St} {es : Es1} {ks : List Int} {S : Int → Prop} {Q : V → St → Prop} (l43 : loc 43 = some (sh t r)) (l37 : loc 37 = some (.lst hs)) (hT : st.f t = .dict es) (hK : ky es = ks.map .i) (hS : ∀ x, x ∈ ks ↔ S x) (hB : Bd2 ks)
  (hz : ks.length + hs.length ≤ 60) (ht : t < st.n) (hQ : ∀ pl s es', s.f pl = .list ((nums hs.length S).map rf) → pl < s.n → st.n ≤ pl → Laid t st es ks [] (nums hs.length S, []) s es' → Q (.ref pl) s) : RV1 (callFn T (n + 2) true) true loc Loc.none (.comp .lst (.callO 4 4 (.up 43) (.cons (.dct [] .nil) .nil)) [36] (.loc 37) none) st Q := by
 refine r_comp (r_loc l37 ⟨hs, rfl, ?_⟩)
 refine comp_lst (PI t st es ks S hs.length) (fun _ _ _ _ _ => rfl) ?_ ?_ hs fuelW 0 Loc.none [] st rfl (fuel_of (Nat.le_trans (Nat.le_add_left _ _) hz) rfl) (fun C m => m [] S es rfl rfl (fun x => by rw [List.append_nil]; exact hS x) (Laid.refl hT hK hB (Kept.refl t st)))
 ·intro u r' acc l s R h hR
  refine ⟨_, rfl, Runs.pure ⟨rfl, ?_⟩⟩
  refine h _ fun al S' es' e hn hS' hL => hL _ fun a1 a2 a3 a4 a5 _ => ?_
  have hz' : (ks ++ al).length ≤ 60 := by rw [lApp]; exact al_len hn hz
  have ht' : t < s.n := ltl ht a4.1
  refine r_callO (r_up l43 ⟨_, _, rfl, rfl, r_cons (r_dct (by decide) (r_nil ⟨rfl, r_nil ?_⟩))⟩)
  refine add_ok ((push_ne ht').trans a1) a2 hS' ⟨hz', a3⟩ (Nat.lt_succ_of_lt ht') fun s' h2 h3 => hR _ _ fun C m => m (al ++ [free S']) (addS S' [free S']) (es' ++ [(.i (free S'), .tup [.int 0, .ref s.n])]) (by rw [e, List.map_append]; rfl) (by rw [hn, List.append_assoc]; rfl) (by rw [← List.append_assoc]; exact mem_snoc hS') fun D k => ?_
  refine k h2 (by rw [← List.append_assoc]; exact ky_snoc a2) (by rw [← List.append_assoc]; exact a3.snoc (free_bd hS' a3).2) (a4.push.trans h3) (fun k hk _ => ?_) fun c hc => absurd hc nmn
  rw [dGet_app, if_pos ((mem_ky a2).mpr (List.mem_append_left _ hk))]; exact a5 k hk nmn
 ·intro acc s h
  refine h _ fun al S' es' e hn _ hL => ?_
  have hn : nums hs.length S = al := hn.trans (List.append_nil al)
  rw [hn] at hQ
  exact hL _ fun a1 a2 a3 a4 a5 _ => hQ s.n _ es' (by rw [← e]; exact push_f) (lts _) a4.1 fun C m => m ((push_ne (ltl ht a4.1)).trans a1) a2 a3 a4.push a5 fun c hc => absurd hc nmn
noncomputable def LayAt (n t r d : Nat) : Prop := ∀ (hs : List V) (P : Int) (st : St) (es : Es1) (ks : List Int) (S : Int → Prop) (Q : V → St → Prop), HeadsOk d hs → hs ≠ [] → st.f t = .dict es → ky es = ks.map .i → (∀ x, x ∈ ks ↔ S x) → Bd2 ks →
 ks.length + (lay d hs P S).1.length ≤ 60 → t < st.n → (∀ st' es', Laid t st es ks [] (lay d hs P S) st' es' → Q (.lst ((nums hs.length S).map rf)) st') → Runs (callFn T n true 452 [sh t r, .lst hs, rf P, .int (4 - d)]) st Q
theorem pos_len {h : V} {t : List V} : ¬ (((h :: t).length : Nat) : Int) ≤ 0 := fun e => absurd (Int.ofNat_le.mp e) (Nat.not_succ_le_zero _)
theorem nums_ne {h : V} {t : List V} {S : Int → Prop} : nums (h :: t).length S ≠ [] := fun e => by cases e
theorem deep_up (d : Nat) : (4 : Int) - ((d + 1 : Nat) : Int) + 1 = 4 - (d : Int) := by omega
theorem kids_run {n d t r i1 k j : Nat} {o : Bool} {kk : List V} {a : Int} {loc : Loc} {s0 s : St} {es it : Es1} {ks : List Int} {S : Int → Prop} {KS : List DK} {Q : Fl × Loc → St → Prop} (IH : LayAt (n + 20) t r d) (hd : d ≤ 3) (hok : HeadsOk d kk) (l43 : loc 43 = some (sh t r)) (l36 : loc 36 = some (hv i1 k o kk)) (l41 : loc 41 = some (.ref j)) (l40 : loc 40 = some (.int (4 - ((d + 1 : Nat) : Int))))
  (hi : ∀ Q, Q (rf a) s → RV1 (callFn T (n + 20) true) true loc Loc.none (.idx .lst (.loc 4) (.loc 1)) s Q) (hT : s.f t = .dict es) (hK : ky es = ks.map .i) (hS : ∀ x, x ∈ ks ↔ S x) (hB : Bd2 ks) (hz : ks.length + (lay d kk a S).1.length ≤ 60) (ht : t < s.n) (h0 : Kept t s0 s) (hj0 : s0.n ≤ j) (hjn : j < s.n) (hjt : j ≠ t)
  (hj : s.f j = .dict it) (hKs : Keys it KS) (k1 : keyOk KS (.s "First") = true) (k2 : keyOk (KS ++ [.s "First"]) (.s "Last") = true) (k3 : keyOk (KS ++ [.s "First"] ++ [.s "Last"]) (.s "Count") = true)
  (hQ : ∀ lc s' es', (∀ x, x ≠ 39 → lc x = loc x) → j < s'.n → s'.f j = .dict (it ++ kidE d (hv i1 k o kk) (nums kk.length S)) → Keys (it ++ kidE d (hv i1 k o kk) (nums kk.length S)) (KS ++ [.s "First"] ++ [.s "Last"] ++ [.s "Count"]) → (∀ ob, Laid t s0 es ks [] (lay d kk a S) (s'.set j ob) es') → Q (.next, lc) s') :
  RS1 (callFn T (n + 20)) true loc (.ife (.cmp .le true (.bi .lenL (.cons (.attr (.loc 36) 10) .nil)) (.lit (.int 0))) (.cons (.ex (.callF 459 (.cons (.loc 41) (.cons (.callF 452 (.cons (.loc 43) (.cons (.attr (.loc 36) 10) (.cons (.idx .lst (.loc 4) (.loc 1)) (.cons (.bin .add (.loc 40) (.lit (.int 1))) .nil))))) .nil)))) (.cons (.asg 39 (.callF 447 (.cons (.attr (.loc 36) 10) .nil))) (.cons (.asgIdx .dct (.loc 41) (.lit (.str "Count")) (.ite (.attr (.loc 36) 9) (.loc 39) (.neg (.loc 39)))) .nil))) .nil) s Q := by
 have hlen := heads_len hok hd
 refine s_ife (r_cmpB (r_bi (r_cons (r_attr (r_loc l36 (Runs.of rfl (r_nil (b_len (xs := kk) rfl (leK hlen rfl) (r_lit (c_le ?_))))))))))
 cases kk with
 | nil =>
  refine Runs.pure (hQ _ _ es (fun _ _ => rfl) hjn ?_ ?_ fun ob => ?_)
  ·rw [hj]; exact congrArg Ob.dict (List.append_nil it).symm
  ·rw [show it ++ kidE d (hv i1 k o []) (nums ([] : List V).length S) = it from List.append_nil it]; exact hKs.app.app.app
  ·rw [lay_nil]; exact Laid.refl ((set_ne hjt.symm).trans hT) hK hB (h0.over (Kept.refl t s) hj0)
 | cons kh kt =>
  rw [ndF pos_len]
  refine s_cons (s_ex (r_callF (r_cons (r_loc l41 (r_cons (r_callF (r_cons (r_loc l43 (r_cons (r_attr (r_loc l36 (Runs.of rfl (r_cons (hi _ (r_cons (r_bin (r_loc l40 (r_lit (o_add (r_nil ?_))))))))))))))))))))
  rw [deep_up]
  refine IH _ a s es ks S _ hok (fun e => by cases e) hT hK hS hB hz ht fun s1 es1 L => L _ fun _ _ _ a4 _ _ => ?_
  refine r_nil (link_ok nums_ne (by rw [nums_len]; exact leK hlen rfl) ((a4.2 j hjn hjt).trans hj) hKs k1 k2 fun hK2 => ?_)
  refine s_cons (s_asg (r_callF (r_cons (r_attr (r_loc l36 (Runs.of rfl (r_nil (vis_ok4 (n := n + 16) hok hd ?_))))))))
  obtain ⟨b1, b2, b3, b4⟩ := hK2.step (v := .int (if o then cnt d (kh :: kt) else -cnt d (kh :: kt))) k3
  refine s_cons (s_asgIdx (r_ite (r_tr (r_attr (r_loc l36 (Runs.of rfl ⟨o, rfl, ?_⟩))) rfl)))
  have fin : Runs (setIdxV .dct (.ref j) (.str "Count") (.int (if o then cnt d (kh :: kt) else -cnt d (kh :: kt)))) (s1.set j (.dict (it ++ [(.s "First", rf ((nums (kh :: kt).length S).headD 0))] ++ [(.s "Last", rf ((nums (kh :: kt).length S).getLastD 0))]))) fun _ s' =>
    Runs (M.pure (Fl.next, loc.put 39 (.int (cnt d (kh :: kt))))) s' Q := by
   refine x_dct set_self rfl b1 b2 ?_
   rw [set_set, b3]
   refine Runs.pure (hQ _ _ es1 (fun x hx => if_neg hx) (ltl hjn a4.1) ?_ ?_ fun ob => ?_)
   ·rw [set_self, List.append_assoc, List.append_assoc]; rfl
   ·rw [List.append_assoc, List.append_assoc] at b4; exact b4
   ·rw [set_set]; exact L.under h0 hj0 hjn hjt ob
  cases o with
  | true => exact r_loc rfl (r_loc l41 (r_lit fin))
  | false => exact Runs.of rfl (r_loc l41 (r_lit fin))
theorem octH_hv : ∀ (i k : Nat) (o : Bool) (ks : List V), i < 10 → octH (hv i k o ks) = oct i
 | 0, _, _, _, _ => by kernel_rfl
 | 1, _, _, _, _ => by kernel_rfl
 | 2, _, _, _, _ => by kernel_rfl
 | 3, _, _, _, _ => by kernel_rfl
 | 4, _, _, _, _ => by kernel_rfl
 | 5, _, _, _, _ => by kernel_rfl
 | 6, _, _, _, _ => by kernel_rfl
 | 7, _, _, _, _ => by kernel_rfl
 | 8, _, _, _, _ => by kernel_rfl
 | 9, _, _, _, _ => by kernel_rfl
 | i + 10, _, _, _, h => absurd h (by omega)
theorem drop_at {α : Type} {l : List α} {i : Nat} (h : i < l.length) : ∃ u, l[i]? = some u ∧ l.drop i = u :: l.drop (i + 1) := ⟨l[i], List.getElem?_eq_getElem h, List.drop_eq_getElem_cons h⟩
theorem optV_rf {k : Str} {o : Option Int} : optV (.s k) (o.map rf) = optE k o := by cases o <;> rfl
noncomputable def destO (h : V) : Option V := if (fld h 1).isNil then none else some (fld h 1)
theorem optV_dest {h : V} : optV (.s "Dest") (destO h) = destE h := by
 unfold destO destE
 by_cases e : (fld h 1).isNil = true
 ·rw [if_pos e, if_pos e]; rfl
 ·rw [if_neg e, if_neg e]; rfl
theorem i_rf {s : St} {pl k : Nat} {as : List Int} {x a : Int} {Q : V → St → Prop} (h : s.f pl = .list (as.map rf)) (hx : x = k) (ha : as[k]? = some a) (hz : as.length ≤ 4000) (hQ : Q (rf a) s) : Runs (idxV .lst (.ref pl) (.int x)) s Q := by
 subst hx
 exact i_lst (listOf_ref h) (idxAt_nat (by rw [List.length_map]; exact (List.getElem?_eq_some_iff.mp ha).1) (by rw [List.length_map]; exact hz)) (by rw [List.getElem?_map, ha]; rfl) hQ
theorem Kept.new {t j : Nat} {s s' : St} {o : Ob} (k : Kept t s s') (h : s.n ≤ j) : Kept t s (s'.set j o) := ⟨k.1, fun x hx hxt => (set_ne (Nat.ne_of_lt (ltl hx h))).trans (k.2 x hx hxt)⟩
theorem Laid.gone {t pl : Nat} {st s : St} {es es' : Es1} {ks A : List Int} {q : Lay} {xs : List V} (h : Laid t st es ks A q s es') (hp : s.f pl = .list xs) (hn : st.n ≤ pl) (ht : pl ≠ t) : Laid t st es ks A q (s.set pl .gone) es' := fun C m =>
 h _ fun a1 a2 a3 a4 a5 a6 => m ((set_ne ht.symm).trans a1) a2 a3 (a4.new hn) a5 fun c hc D k => a6 c hc _ fun y y1 y0 y2 y3 y4 => k y y1 y0 y2 y3 ((set_ne fun e => by rw [e, hp] at y4; cases y4).trans y4)
noncomputable def prevOf (as : List Int) (i : Nat) : Option Int := if i = 0 then none else as[i - 1]?
noncomputable def KS0 : List DK := [.s "Title", .s "Parent"]
section
variable {as : List Int} {i : Nat} {p : Int}
theorem prev_b (h : i < as.length) : nb true (decide ((i : Int) ≤ 0)) = ((prevOf as i).map rf).isSome := by
 cases i with
 | zero => rfl
 | succ i =>
  rw [ndF (p := ((i + 1 : Nat) : Int) ≤ 0) (fun e => absurd (Int.ofNat_le.mp e) (Nat.not_succ_le_zero _))]
  show true = (as[i]?.map rf).isSome
  rw [List.getElem?_eq_getElem (Nat.lt_of_succ_lt h)]; rfl
theorem prev_some (h : prevOf as i = some p) : ∃ k : Nat, (i : Int) - 1 = k ∧ as[k]? = some p := by
 cases i with
 | zero => cases h
 | succ i => exact ⟨i, by omega, h⟩
theorem next_b : nb false (decide ((i : Int) + 1 < ((as.length : Nat) : Int))) = (((as.drop (i + 1)).head?).map rf).isSome := by
 rw [List.head?_drop]
 by_cases h : i + 1 < as.length
 ·rw [nbT (p := (i : Int) + 1 < (as.length : Int)) (Int.ofNat_lt.mpr h), List.getElem?_eq_getElem h]; rfl
 ·rw [nbF (p := (i : Int) + 1 < (as.length : Int)) (fun e => h (Int.ofNat_lt.mp e)), List.getElem?_eq_none (Nat.not_lt.mp h)]; rfl
theorem next_some (h : (as.drop (i + 1)).head? = some p) : as[i + 1]? = some p := List.head?_drop.symm.trans h
theorem dest_b {i1 k : Nat} {o : Bool} {kk : List V} : nb true (targs.getD k .nil).isNil = (destO (hv i1 k o kk)).isSome := by
 show (!(targs.getD k .nil).isNil) = (if (targs.getD k .nil).isNil then none else some (targs.getD k .nil)).isSome
 cases (targs.getD k .nil).isNil <;> rfl
theorem dest_some {i1 k : Nat} {o : Bool} {kk : List V} {v : V} (h : destO (hv i1 k o kk) = some v) : targs.getD k .nil = v := by
 change (if (targs.getD k .nil).isNil then none else some (targs.getD k .nil)) = some v at h
 cases e : (targs.getD k .nil).isNil with
 | true => rw [e] at h; cases h
 | false => rw [e] at h; exact Option.some.inj h
end
theorem deep_ok (d : Nat) : nb true (decide ((4 : Int) - (d : Int) ≤ 20)) = false := ndT (by omega)
theorem bnd_of {ks : List Int} {S : Int → Prop} (hS : ∀ x, x ∈ ks ↔ S x) (hB : Bd2 ks) : Bnd S := ⟨9 + ks.length, fun x hx => by rw [Int.natCast_add]; exact hB x ((hS x).mpr hx)⟩
theorem mem_app {ks kn : List Int} {S : Int → Prop} (hS : ∀ x, x ∈ ks ↔ S x) : ∀ x, x ∈ ks ++ kn ↔ addS S kn x := fun x => List.mem_append.trans (or_congr_left (hS x))
theorem layR_cons {f : List V → Int → (Int → Prop) → Lay} {d : Nat} {P : Int} {hs hr : List V} {as ar : List Int} {prev : Option Int} {S : Int → Prop} {h : V} {a : Int} (e1 : hs = h :: hr) (e2 : as = a :: ar) : layR f d P hs as prev S = ((f (kidsOf h) a S).1 ++ (layR f d P hr ar (some a) (addS S (f (kidsOf h) a S).1)).1,
  (f (kidsOf h) a S).2 ++ (a, itemE d h P prev ar.head? (nums (kidsOf h).length S)) :: (layR f d P hr ar (some a) (addS S (f (kidsOf h) a S).1)).2) := by subst e1; subst e2; rfl
theorem len3 {a b c : Nat} {l m : List Int} (h : a + (l ++ m).length ≤ b) : a + l.length ≤ b ∧ a + l.length + m.length ≤ b := by
 rw [lApp] at h
 exact ⟨Nat.le_trans (Nat.add_le_add_left (Nat.le_add_right ..) a) h, by rw [Nat.add_assoc]; exact h⟩
noncomputable def LI (t r d : Nat) (P : Int) (st : St) (es : Es1) (ks : List Int) (S : Int → Prop) (hs : List V) (as : List Int) (pl i : Nat) (loc : Loc) (s : St) : Prop := ∀ C : Prop, (∀ es' ks' S', loc 43 = some (sh t r) → loc 37 = some (.lst hs) → loc 42 = some (rf P) → loc 40 = some (.int (4 - ((d + 1 : Nat) : Int))) → loc 4 = some (.ref pl) → s.f pl = .list (as.map rf) → pl < s.n → t < s.n →
 s.f t = .dict es' → ky es' = ks'.map .i → (∀ x, x ∈ ks' ↔ S' x) → Bd2 ks' → ks'.length + (layR (lay d) d P (hs.drop i) (as.drop i) (prevOf as i) S').1.length ≤ 60 → (∀ a ∈ as, S' a) →
 (∀ s' es'', Laid t s es' ks' (as.drop i) (layR (lay d) d P (hs.drop i) (as.drop i) (prevOf as i) S') s' es'' → Laid t st es ks [] (lay (d + 1) hs P S) s' es'') → C) → C
theorem lay_step {n t r d : Nat} (IH : LayAt (n + 20) t r d) (hd : d + 1 ≤ 3) : LayAt (n + 21) t r (d + 1) := by
 intro hs P st es ks S Q hok hne hT hK hS hB hz ht hQ
 have hhl : hs.length ≤ 3 := heads_len hok hd
 obtain ⟨n1, n2, _⟩ := nums_ok hs.length (bnd_of hS hB)
 have hz2 := len3 (c := 0) (show ks.length + (nums hs.length S ++ (layR (lay d) d P hs (nums hs.length S) none (addS S (nums hs.length S))).1).length ≤ 60 from hz)
 rw [nums_len] at hz2
 refine c_open (fn := f452) rfl rfl rfl ?_
 refine s_cons (s_ife (r_cmpB (r_loc rfl (r_lit (c_le ?_)))))
 rw [deep_ok]
 refine Runs.pure ?_
 refine s_cons (s_asg (places_ok (n := n + 18) rfl rfl hT hK hS hB hz2.1 ht fun pl s1 es1 p1 p2 p3 L1 => L1 _ fun a1 a2 a3 a4 a5 _ => ?_))
 have hplt : pl ≠ t := ne_up ht p3
 refine s_cons (s_for (r_bi (r_cons (r_bi (r_cons (r_loc rfl (r_nil (b_len (xs := hs) rfl (leK hhl rfl) (r_nil (b_range (l_rng (leK hhl rfl) ?_)))))))))))
 have hasl : (nums hs.length S).length = hs.length := nums_len _ _
 have hlay : lay (d + 1) hs P S = (nums hs.length S ++ (layR (lay d) d P hs (nums hs.length S) none (addS S (nums hs.length S))).1, (layR (lay d) d P hs (nums hs.length S) none (addS S (nums hs.length S))).2) := rfl
 generalize nums hs.length S = as at *
 have hasz : as.length ≤ 4000 := by rw [hasl]; exact leK hhl rfl
 refine for_rng (c := hs.length) (LI t r d P st es ks S hs as pl) (fun i loc s R hi h hR => h _ fun es' ks' S' l43 l37 l42 l40 l4 hpl hpn htn b1 b2 b3 b4 b5 b6 b7 => ?_) (fun loc s h => h _ fun es' ks' S' l43 l37 l42 l40 l4 hpl hpn htn b1 b2 b3 b4 b5 b6 b7 => ?_) hs.length fuelW 0 _ s1 (Nat.zero_add _) (fuel_of hhl rfl)
  (fun C k => k es1 (ks ++ as) (addS S as) rfl rfl rfl rfl rfl p1 p2 (ltl ht a4.1) a1 a2 (mem_app hS) a3 (by rw [lApp, hasl]; exact hz2.2) (fun a ha => .inr ha) fun s' es'' hL D m => hL _ fun c1 c2 c3 c4 c5 c6 => ?_)
 ·obtain ⟨u, hu, hdu⟩ := drop_at hi
  obtain ⟨a, ha, hda⟩ := drop_at (l := as) (i := i) (by rw [hasl]; exact hi)
  obtain ⟨i1, k, o, kk, rfl, hi1, hk4, hokk, hkk⟩ := hok.2 u (List.mem_of_getElem? hu)
  have hai : i < as.length := by rw [hasl]; exact hi
  refine s_cons (s_asg (r_idx (r_loc l37 (r_loc rfl (i_lst rfl (idxAt_nat hi (leK hhl rfl)) hu ?_)))))
  refine s_cons (s_asg (r_dct (by decide) (r_cons (r_new (r_cons (r_callF (r_cons (Runs.of rfl (r_nil (Runs.of (oct_all (n + 12) s i1 hi1) (r_nil (new_str fun s2 x2 => r_cons (r_loc l42 (r_nil ⟨rfl, ?_⟩))))))))))))))
  rw [← octH_hv i1 k o kk hi1]
  have hjt : s2.n ≠ t := ne_up htn x2.1
  have hjp : pl ≠ s2.n := ne_low hpn x2.1
  have f3 : (s2.push (.dict (baseE (hv i1 k o kk) P))).f s2.n = .dict (baseE (hv i1 k o kk) P) := push_f
  have k3 : Kept t s (s2.push (.dict (baseE (hv i1 k o kk) P))) := x2.kept.push
  have n3' : s2.n < (s2.push (.dict (baseE (hv i1 k o kk) P))).n := lts _
  have t3 : (s2.push (.dict (baseE (hv i1 k o kk) P))).f t = .dict es' := ((if_neg hjt.symm).trans (x2.2 t htn)).trans b1
  have hj0 := x2.1
  show RSs _ _ _ _ (s2.push (.dict (baseE (hv i1 k o kk) P))) _
  generalize s2.push (.dict (baseE (hv i1 k o kk) P)) = s3 at f3 k3 n3' t3 ⊢
  generalize s2.n = j at hj0 hjt hjp f3 n3' ⊢
  have hpl3 : s3.f pl = .list (as.map rf) := (k3.2 pl hpn hplt).trans hpl
  have K0 : Keys (baseE (hv i1 k o kk) P) KS0 := ⟨Nat.le_refl _, fun k hk => hk⟩
  refine s_cons (s_opt (o := (prevOf as i).map rf) rfl f3 K0 (by decide) (fun B hB => ?_) (fun v hv R hR => ?_) fun K1 => ?_)
  ·refine r_cmpB (r_loc rfl (r_lit (c_le ?_)))
   rw [prev_b hai]; exact hB
  ·obtain ⟨p, hp, rfl⟩ := mapS hv
   obtain ⟨k, e1, e2⟩ := prev_some hp
   exact r_idx (r_loc l4 (r_bin (r_loc rfl (r_lit (o_sub (i_rf hpl3 e1 e2 hasz hR))))))
  rw [optV_rf] at K1 ⊢
  refine s_cons (s_opt (o := ((as.drop (i + 1)).head?).map rf) rfl set_self K1 (by decide) (fun B hB => ?_) (fun v hv R hR => ?_) fun K2 => ?_)
  ·refine r_cmpB (r_bin (r_loc rfl (r_lit (o_add (r_bi (r_cons (r_loc l4 (r_nil (b_len (listOf_ref ((set_ne hjp).trans hpl3)) (by rw [List.length_map]; exact hasz) (c_lt ?_))))))))))
   rw [List.length_map, next_b]; exact hB
  ·obtain ⟨p, hp, rfl⟩ := mapS hv
   exact r_idx (r_loc l4 (r_bin (r_loc rfl (r_lit (o_add (i_rf ((set_ne hjp).trans hpl3) (k := i + 1) rfl (next_some hp) hasz hR))))))
  rw [optV_rf, set_set] at *
  generalize he : baseE (hv i1 k o kk) P ++ optE "Prev" (prevOf as i) ++ optE "Next" (as.drop (i + 1)).head? = it at K2 ⊢
  have hpr : prevOf as (i + 1) = some a := (if_neg (Nat.succ_ne_zero i)).trans ha
  rw [layR_cons hdu hda] at b5 b7
  have b5' := len3 (c := 0) b5
  have hnd := List.nodup_cons.mp (hda ▸ n1.sublist (List.drop_sublist i as))
  refine s_cons (kids_run (loc := ((loc.put 1 (.int i)).put 36 (hv i1 k o kk)).put 41 (.ref j)) (a := a) IH (Nat.le_of_lt hd) hkk l43 rfl rfl l40 (fun Q hQ => r_idx (r_loc l4 (r_loc rfl (i_rf ((set_ne hjp).trans hpl3) rfl ha hasz hQ)))) ((set_ne hjt.symm).trans t3) b2 b3 b4 b5'.1 (ltl htn k3.1) (k3.new hj0) hj0 n3' hjt set_self K2 (by decide) (by decide) (by decide) fun lc s6 es6 l6 n6 f6 K6 L6 => ?_)
  have m43 : lc 43 = some (sh t r) := (l6 43 (by decide)).trans l43
  have m4 : lc 4 = some (.ref pl) := (l6 4 (by decide)).trans l4
  have m36 : lc 36 = some (hv i1 k o kk) := l6 36 (by decide)
  have m41 : lc 41 = some (.ref j) := l6 41 (by decide)
  have m1 : lc 1 = some (.int i) := l6 1 (by decide)
  refine s_cons (s_opt (o := destO (hv i1 k o kk)) m41 f6 K6 (by decide) (fun B hB => ?_) (fun v hv R hR => ?_) fun K7 => ?_)
  ·refine r_cmpB (r_attr (r_loc m36 (Runs.of rfl (r_lit (Runs.onP rfl (Runs.pure ?_))))))
   rw [← dest_b (k := k)] at hB; exact hB
  ·rw [← dest_some hv] at hR
   exact r_attr (r_loc m36 (Runs.of rfl hR))
  rw [optV_dest, ← he]
  have L7 := L6 (.dict (baseE (hv i1 k o kk) P ++ optE "Prev" (prevOf as i) ++ optE "Next" (as.drop (i + 1)).head? ++ kidE d (hv i1 k o kk) (nums kk.length S') ++ destE (hv i1 k o kk)))
  refine L7 _ fun c1 c2 c3 c4 _ _ => ?_
  have pl7 := (c4.2 pl hpn hplt).trans hpl
  have h6 : es6.length ≤ 4000 := by rw [len_ky c2, lApp]; exact leK b5'.1 rfl
  refine s_cons (s_ex (r_callO (r_loc m43 ⟨_, _, rfl, rfl, r_cons (r_attr (r_idx (r_loc m4 (r_loc m1 (i_rf pl7 rfl ha hasz (Runs.of rfl ?_))))))⟩)))
  refine r_cons (r_attr (r_idx (r_loc m4 (r_loc m1 (i_rf pl7 rfl ha hasz (Runs.of rfl (r_cons (r_loc m41 (r_nil (put_ok (n := n + 19) c1 (kind_ky c2) h6 ?_))))))))))
  refine Runs.pure (hR _ _ fun C m => m _ (ks' ++ (lay d kk a S').1) (addS S' (lay d kk a S').1) m43 ((l6 37 (by decide)).trans l37) ((l6 42 (by decide)).trans l42) ((l6 40 (by decide)).trans l40) m4 ((set_ne hplt).trans pl7) (ltl hpn c4.1) (ltl htn c4.1) set_self ?_ (mem_app b3) c3 ?_ (fun a ha => .inl (b6 a ha)) fun s' es'' hL => ?_)
  ·rw [dSet_old ((mem_ky c2).mpr (List.mem_append_left _ ((b3 a).mpr (b6 a (List.mem_of_getElem? ha))))), upd_ky]; exact c2
  ·rw [hpr, lApp]; exact b5'.2
  ·rw [hpr] at hL
   refine b7 s' es'' ?_
   rw [hda]
   exact Laid.step b3 (fun b hb => b6 b (List.mem_of_mem_drop (hda ▸ hb))) hnd.1 (lay_fresh d kk a S' (bnd_of b3 b4)) L7 Kept.set hj0 n6 hjt ((set_ne hjt).trans set_self) hL
 ·refine s_cons (s_ret (r_loc l4 (Runs.pure (r_frzL hpl (hQ _ es' ((b7 s es' ?_).gone hpl p3 hplt))))))
  rw [show hs.drop hs.length = [] from List.drop_length]
  exact Laid.refl b1 b2 b4 (Kept.refl t s)
 ·rw [hlay] at m
  exact m c1 (by rw [← List.append_assoc]; exact c2) (by rw [← List.append_assoc]; exact c3) (a4.trans c4) (fun k hk _ => (c5 k (List.mem_append_left _ hk) fun h => n2 k h ((hS k).mp hk)).trans (a5 k hk nmn)) fun c hc => (c6 c hc).mono a4.1 (Kept.refl t s') rfl
theorem lay3 (n t r : Nat) : LayAt (n + 23) t r 3 := lay_step (n := n + 2) (lay_step (n := n + 1) (lay_step (n := n) (fun hs P st es ks S Q h hne => absurd h hne) (by decide)) (by decide)) (by decide)
noncomputable def headE (hs : List V) (as : List Int) : Es1 := [(.s "Type", .obj 0 [.str "Outlines"])] ++ kidE 3 (hv 0 0 true hs) as
noncomputable def wlay (hs : List V) (S : Int → Prop) : Lay := (free S :: (lay 3 hs (free S) (addS S [free S])).1, (lay 3 hs (free S) (addS S [free S])).2 ++ [(free S, headE hs (nums hs.length (addS S [free S])))])
theorem wlen {ks : List Int} {hs : List V} {S : Int → Prop} (hok : HeadsOk 3 hs) (hz : ks.length ≤ 40) : (ks ++ [free S]).length + (lay 3 hs (free S) (addS S [free S])).1.length ≤ 60 := by
 rw [lApp]
 exact Nat.add_le_add (Nat.add_le_add hz (Nat.le_refl 1)) (Nat.le_trans (lay_len 3 hs (free S) (addS S [free S]) hok) (show sz 3 ≤ 19 by decide))
theorem head_run {n t r j : Nat} {hs : List V} {loc : Loc} {s1 s3 : St} {es1 : Es1} {ks : List Int} {p : Int} {S : Int → Prop} {Q : Fl × Loc → St → Prop} (hok : HeadsOk 3 hs) (l43 : loc 43 = some (sh t r)) (l37 : loc 37 = some (.lst hs)) (l44 : loc 44 = some (rf p)) (l11 : loc 11 = some (.ref j)) (f3 : s3.f j = .dict [(.s "Type", .obj 0 [.str "Outlines"])]) (k3 : Kept t s1 s3) (n3 : j < s3.n) (hj0 : s1.n ≤ j) (hjt : j ≠ t)
  (t3 : s3.f t = .dict es1) (ht : t < s3.n) (hK : ky es1 = ks.map .i) (hS : ∀ x, x ∈ ks ↔ S x) (hB : Bd2 ks) (hz : ks.length + (lay 3 hs p S).1.length ≤ 60) (hQ : ∀ s' es', j < s'.n → s'.f j = .dict (headE hs (nums hs.length S)) → (∀ ob, Laid t s1 es1 ks [] (lay 3 hs p S) (s'.set j ob) es') → Q (.next, loc) s') :
  RS1 (callFn T (n + 23)) true loc (.ife (.cmp .le true (.bi .lenL (.cons (.loc 37) .nil)) (.lit (.int 0))) (.cons (.ex (.callF 459 (.cons (.loc 11) (.cons (.callF 452 (.cons (.loc 43) (.cons (.loc 37) (.cons (.loc 44) (.cons (.lit (.int 1)) .nil))))) .nil)))) (.cons (.asgIdx .dct (.loc 11) (.lit (.str "Count")) (.callF 447 (.cons (.loc 37) .nil))) .nil)) .nil) s3 Q := by
 have hhl : hs.length ≤ 3 := heads_len hok (by decide)
 refine s_ife (r_cmpB (r_bi (r_cons (r_loc l37 (r_nil (b_len (xs := hs) rfl (leK hhl rfl) (r_lit (c_le ?_))))))))
 cases hs with
 | nil =>
  refine Runs.pure (hQ _ es1 n3 f3 fun ob => ?_)
  rw [lay_nil]
  exact Laid.refl ((set_ne hjt.symm).trans t3) hK hB (k3.over (Kept.refl t s3) hj0)
 | cons h hr =>
  rw [ndF pos_len]
  refine s_cons (s_ex (r_callF (r_cons (r_loc l11 (r_cons (r_callF (r_cons (r_loc l43 (r_cons (r_loc l37 (r_cons (r_loc l44 (r_cons (r_lit (r_nil ?_)))))))))))))))
  refine lay3 n t r (h :: hr) p s3 es1 _ _ _ hok (fun e => by cases e) t3 hK hS hB hz ht fun s4 es4 L => L _ fun _ _ _ a4 _ _ => ?_
  refine r_nil (link_ok (n := n + 22) (KS := [.s "Type"]) nums_ne (by rw [nums_len]; exact leK hhl rfl) ((a4.2 j n3 hjt).trans f3) ⟨Nat.le_refl _, fun k hk => hk⟩ (by decide) (by decide) fun hK5 => ?_)
  obtain ⟨b1, b2, b3, _⟩ := hK5.step (k := .s "Count") (v := .int (cnt 3 (h :: hr))) (by decide)
  refine s_cons (s_asgIdx (r_callF (r_cons (r_loc l37 (r_nil (vis_ok4 (n := n + 19) hok (by decide) (r_loc l11 (r_lit (x_dct set_self rfl b1 b2 ?_)))))))))
  rw [b3, set_set]
  refine Runs.pure (hQ _ es4 (ltl n3 a4.1) set_self fun ob => ?_)
  rw [set_set]
  exact L.under k3 hj0 n3 hjt ob
theorem write_ok {n t r : Nat} {hs : List V} {st : St} {es : Es1} {ks : List Int} {S : Int → Prop} {Q : V → St → Prop} (hok : HeadsOk 3 hs) (hT : st.f t = .dict es) (hK : ky es = ks.map .i) (hS : ∀ x, x ∈ ks ↔ S x) (hB : Bd2 ks) (hz : ks.length ≤ 40) (ht : t < st.n)
  (hQ : ∀ st' es', Laid t st es ks [] (wlay hs S) st' es' → Q (rf (free S)) st') : Runs (callFn T (n + 24) true 466 [sh t r, .lst hs]) st Q := by
 have hb := free_bd hS hB
 refine c_open (fn := f466) rfl rfl rfl ?_
 refine s_cons (s_asg (r_callO (r_loc rfl ⟨_, _, rfl, rfl, r_cons (r_dct (by decide) (r_nil ⟨rfl, r_nil ?_⟩))⟩)))
 refine add_ok (n := n + 21) ((push_ne ht).trans hT) hK hS ⟨Nat.le_trans hz (by decide), hB⟩ (Nat.lt_succ_of_lt ht) fun s1 a1 a2 => ?_
 have hB1 : Bd2 (ks ++ [free S]) := hB.snoc hb.2
 have hK1 := ky_snoc (v := .tup [.int 0, .ref st.n]) (a := free S) hK
 have hS1 := mem_snoc (a := free S) hS
 have k1 : Kept t st s1 := (Kept.refl t st).push.trans a2
 have ht1 : t < s1.n := ltl ht k1.1
 have hg1 : ∀ k ∈ ks, dGet (es ++ [(DK.i (free S), V.tup [V.int 0, V.ref st.n])]) (.i k) = dGet es (.i k) := fun k hk => by rw [dGet_app, if_pos ((mem_ky hK).mpr hk)]
 generalize es ++ [(DK.i (free S), .tup [.int 0, .ref st.n])] = es1 at a1 hK1 hg1
 refine s_cons (s_asg (r_dct (by decide) (r_cons (r_new (r_cons (r_lit (r_nil (new_name fun s2 x2 => r_nil ⟨rfl, ?_⟩))))))))
 have hjt : s2.n ≠ t := ne_up ht1 x2.1
 refine s_cons (head_run (n := n) hok rfl rfl rfl rfl push_f x2.kept.push (lts _) x2.1 hjt (((if_neg hjt.symm).trans (x2.2 t ht1)).trans a1) (Nat.lt_succ_of_lt (ltl ht1 x2.1)) hK1 hS1 hB1 (wlen hok hz) fun s6 es6 n6 f6 L6 => ?_)
 have L := L6 (.dict (headE hs (nums hs.length (addS S [free S]))))
 rw [set_id f6] at L
 have hj0 := x2.1
 generalize s2.n = j at hjt n6 f6 hj0 ⊢
 refine L _ fun d1 d2 d3 _ _ _ => ?_
 have h6 : es6.length ≤ 4000 := by rw [len_ky d2, lApp]; exact leK (wlen hok hz) rfl
 refine s_cons (s_ex (r_callO (r_loc rfl ⟨_, _, rfl, rfl, r_cons (r_attr (r_loc rfl (Runs.of rfl (r_cons (r_attr (r_loc rfl (Runs.of rfl (r_cons (r_loc rfl (r_nil (put_ok (n := n + 22) d1 (kind_ky d2) h6 ?_)))))))))))⟩)))
 refine s_cons (s_ret (r_loc rfl (Runs.pure (r_ret rfl (hQ _ (dSet es6 (.i (free S)) (.tup [.int 0, .ref j])) fun C m => ?_)))))
 have hmem := List.mem_append_left (lay 3 hs (free S) (addS S [free S])).1 (List.mem_append_right ks (List.mem_singleton.mpr (rfl : free S = free S)))
 refine Laid.step (a := free S) (ar := []) hS1 (fun b hb => .inr hb) nmn (lay_fresh 3 hs (free S) _ (bnd_of hS1 hB1)) L Kept.set hj0 n6 hjt ((set_ne hjt).trans f6)
  (Laid.refl (A := []) set_self (by rw [dSet_old ((mem_ky d2).mpr hmem), upd_ky]; exact d2) d3 (Kept.refl t _)) _ fun e1 e2 e3 e4 e5 e6 => ?_
 rw [List.append_nil, List.append_assoc] at e2 e3
 exact m e1 e2 e3 (k1.trans e4) (fun k hk _ => (e5 k (List.mem_append_left _ hk) fun h => hb.1.2.1 (by rw [← List.mem_singleton.mp h]; exact (hS k).mp hk)).trans (hg1 k hk)) fun c hc => (e6 c hc).mono k1.1 (Kept.refl t _) rfl
end Mine
end
section
open PySem PySem.W
namespace Mine
noncomputable def dp : Nat → V → Bool
 | 0, _ => false
 | n + 1, v => match v.tup? with
  | some xs => xs.all (dp n)
  | none => v.isNil || v.bool?.isSome || v.int?.isSome || v.str?.isSome || v.bytes?.isSome
theorem allTwo_refl {f : V → V → Bool} : ∀ {xs : List V}, (∀ x ∈ xs, f x x = true) → allTwo f xs xs = true
 | [], _ => rfl
 | x :: r, h => Bool.and_eq_true_iff.mpr ⟨h x (List.mem_cons_self ..), allTwo_refl fun y hy => h y (List.mem_cons_of_mem _ hy)⟩
theorem same_refl : ∀ (n : Nat) (v : V), dp n v = true → same n v v = true
 | n + 1, .tup xs, h => (Bool.false_or _).trans (allTwo_refl fun x hx => same_refl n x (List.all_eq_true.mp h x hx))
 | n + 1, .nil, _ => rfl
 | n + 1, .bool b, _ => by cases b <;> rfl
 | n + 1, .int i, _ => by show (decide (i = i) || false || false || false) = true; rw [decide_eq_true rfl]; rfl
 | n + 1, .str i, _ => by show (decide (i = i) || false || false) = true; rw [decide_eq_true rfl]; rfl
 | n + 1, .bytes i, _ => by show (decide (i = i) || false) = true; rw [decide_eq_true rfl]; rfl
theorem sames_refl {xs : List V} (h : ∀ x ∈ xs, dp 12 x = true) : sames xs xs = true := allTwo_refl fun x hx => same_refl 12 x (h x hx)
noncomputable def tw (v : V) : V := @Classical.epsilon V ⟨.nil⟩ fun w => ∀ n st, callFn T (n + 6) true 277 [v] st = some (.ok w, st)
noncomputable def TOk (v : V) : Prop := v.isNil = false ∧ (∀ n st, callFn T (n + 6) true 277 [v] st = some (.ok (tw v), st)) ∧ dp 11 (tw v) = true
theorem tw_is {v w : V} (h : ∀ n st, callFn T (n + 6) true 277 [v] st = some (.ok w, st)) : tw v = w := by
 have h2 := (Classical.epsilon_spec (p := fun w => ∀ n st, callFn T (n + 6) true 277 [v] st = some (.ok w, st)) ⟨w, h⟩) 0 st0
 rw [h 0 st0] at h2
 exact (Except.ok.inj (Prod.mk.inj (Option.some.inj h2)).1).symm
theorem tok_of {v w : V} (hn : v.isNil = false) (h : ∀ n st, callFn T (n + 6) true 277 [v] st = some (.ok w, st)) (hd : dp 11 w = true) : TOk v := by
 have e := tw_is h
 exact ⟨hn, by rw [e]; exact h, by rw [e]; exact hd⟩
theorem tok_int (x : Int) : TOk (.int x) := tok_of rfl (fun n st => told_int (n + 2) st x) rfl
theorem tok_str (b : List Nat) : TOk (.obj 1 [.bytes b, .bool false]) := tok_of rfl (fun n st => told_str (n + 2) st b) rfl
theorem tok_rf (a : Int) : TOk (rf a) := tok_of rfl (fun n st => told_ref (n + 2) st a 0) rfl
theorem tok_name (s : Str) : TOk (.obj 0 [.str s]) := tok_of rfl (fun n st => told_name (n + 2) st s) rfl
theorem told_targ (n : Nat) (st : St) : ∀ k, k < 4 → ∃ w, callFn T (n + 6) true 277 [targs.getD k .nil] st = some (.ok w, st) ∧ dp 12 w = true ∧ ((targs.getD k .nil).isNil = false → TOk (targs.getD k .nil))
 | 0, _ => ⟨_, told_nil (n + 2) st, rfl, fun h => by cases h⟩
 | 1, _ => ⟨_, told_name (n + 2) st "d", rfl, fun _ => tok_name _⟩
 | 2, _ => ⟨_, told_arr n st, rfl, fun _ => tok_of rfl (fun n st => told_arr n st) rfl⟩
 | 3, _ => ⟨_, told_str (n + 2) st [110], rfl, fun _ => tok_str _⟩
 | k + 4, h => absurd h (by omega)
noncomputable def DK.str : DK → Str | .s x => x | _ => ""
noncomputable def toldL (es : Es1) : List (Str × Option V) := (isort strLe (es.map fun e => e.1.str)).map fun k => (k, dGet es (.s k))
noncomputable def toldV (l : List (Str × Option V)) : V := .tup (.str "dict" :: l.map fun p => .tup [.str p.1, tw (p.2.getD .nil)])
section
variable {st : St} {j : Nat} {es : Es1}
theorem isin_d {ty : Ty} {b : Bool} {B : Bool → St → Prop} (hd : (st.f j).tag = some 5) (hb : isTag 5 ty = some b) (hB : B b st) : Runs (isinV (.ref j) ty) st B :=
 (Runs.onO (show tagV st (.ref j) = some 5 from hd) (Runs.onO hb (Runs.pure hB)) : Runs (onO (tagV st (.ref j)) fun t => onO (isTag t ty) M.pure) st B)
theorem tag_d (hd : dictR st (.ref j) = some (j, es)) : (st.f j).tag = some 5 := by
 change ((st.f j).dict?.or (st.f j).ldict?).map (fun es => (j, es)) = _ at hd
 cases h : st.f j with
 | dict es => rfl
 | ldict es => rfl
 | _ => rw [h] at hd; cases hd
theorem kind_d {n : Nat} {Q : V → St → Prop} (hd : (st.f j).tag = some 5) (hQ : Q (.str "dict") st) : Runs (callFn T (n + 1) true 265 [.ref j]) st Q := by
 refine c_open (fn := f265) rfl rfl rfl ?_
 refine s_cons (s_ife (Runs.of rfl (Runs.pure ?_)))
 refine s_cons (s_ife (r_isinB (r_loc rfl (isin_d hd rfl (Runs.pure ?_)))))
 refine s_cons (s_ife (r_isinB (r_loc rfl (isin_d hd rfl (Runs.pure ?_)))))
 refine s_cons (s_ife (r_isinB (r_loc rfl (isin_d hd rfl (Runs.pure ?_)))))
 refine s_cons (s_ife (r_isinB (r_loc rfl (isin_d hd rfl (Runs.pure ?_)))))
 refine s_cons (s_ife (r_isinB (r_loc rfl (isin_d hd rfl (Runs.pure ?_)))))
 refine s_cons (s_ife (r_isinB (r_loc rfl (isin_d hd rfl (Runs.pure ?_)))))
 exact s_cons (s_ife (r_isinB (r_loc rfl (isin_d hd rfl (s_cons (s_ret (r_lit (Runs.pure (Runs.pure (r_ret rfl hQ))))))))))
theorem r_compC {call : Addr → List V → M V} {loc up : Loc} {tg : List Nat} {elt it c : E} {Q : V → St → Prop} (h : RV1 call true loc up it st fun v st' => ∃ xs, listOf st' v = some xs ∧
  Runs (compL true (fun l => (ev2 call true l loc elt).1) (fun l => (ev2 call true l loc c).2) tg .lst v fuelW 0 Loc.none []) st' fun ys s => Q (.ref s.n) (s.push (.list ys))) : RV1 call true loc up (.comp .lst elt tg it (some c)) st Q :=
 Runs.bind (h.mono fun v st' ⟨xs, e, h⟩ => Runs.bind (r_onL e (Runs.pure (Runs.bind (h.mono fun ys s h => ⟨_, _, rfl, h⟩)))))
theorem strsOf_map : ∀ l : List Str, strsOf (l.map V.str) = some l
 | [] => rfl
 | x :: l => by
  show (some x).bind (fun y => (allOf V.str? (l.map V.str)).map (y :: ·)) = _
  rw [show allOf V.str? (l.map V.str) = some l from strsOf_map l]; rfl
theorem ins_mem {α : Type} {le : α → α → Bool} {a x : α} : ∀ {l : List α}, x ∈ ins le a l → x = a ∨ x ∈ l
 | [], h => .inl (List.mem_singleton.mp h)
 | b :: r, h => by
  change x ∈ (if le a b then a :: b :: r else b :: ins le a r) at h
  by_cases e : le a b = true
  ·rw [if_pos e] at h; exact List.mem_cons.mp h
  ·rw [if_neg e] at h
   rcases List.mem_cons.mp h with h | h
   ·exact .inr (h ▸ List.mem_cons_self ..)
   ·exact (ins_mem h).imp id (List.mem_cons_of_mem _)
theorem isort_mem {α : Type} {le : α → α → Bool} {x : α} : ∀ {l : List α}, x ∈ isort le l → x ∈ l
 | [], h => h
 | a :: r, h => (ins_mem (l := isort le r) h).elim (fun e => e ▸ List.mem_cons_self ..) fun h => List.mem_cons_of_mem _ (isort_mem h)
theorem ins_len {α : Type} {le : α → α → Bool} {a : α} : ∀ {l : List α}, (ins le a l).length = l.length + 1
 | [] => rfl
 | b :: r => by
  show (if le a b then a :: b :: r else b :: ins le a r).length = _
  by_cases e : le a b = true
  ·rw [if_pos e]; rfl
  ·rw [if_neg e, List.length_cons, ins_len]; rfl
theorem isort_len {α : Type} {le : α → α → Bool} : ∀ {l : List α}, (isort le l).length = l.length
 | [] => rfl
 | a :: r => (ins_len (l := isort le r)).trans (congrArg (· + 1) isort_len)
theorem b_sortDS {Q : V → St → Prop} {l : List Str} (hd : dictR st (.ref j) = some (j, es)) (hl : strsOf (dkeys es) = some l) (hz : es.length < 64) (hQ : Q (.ref st.n) (st.push (.list ((isort strLe l).map .str)))) : Runs (biV true .sortDS [.ref j]) st Q :=
 (Runs.onP rfl (Runs.onO hd (Runs.onO hl (Runs.onP hz ⟨_, _, rfl, hQ⟩)) : Runs (fun st => onO (dictR st (.ref j)) (fun p => onO (strsOf (dkeys p.2)) fun l => onP (p.2.length < 64) (mPush (.list ((isort strLe l).map .str)))) st) st Q) :
  Runs (onP (true = true) fun st => onO (dictR st (.ref j)) (fun p => onO (strsOf (dkeys p.2)) fun l => onP (p.2.length < 64) (mPush (.list ((isort strLe l).map .str)))) st) st Q)
theorem b_tuple {v : V} {xs : List V} {Q : V → St → Prop} (h : listOf st v = some xs) (hz : xs.length ≤ 4000) (hQ : Q (.tup xs) st) : Runs (biV true .tuple [v]) st Q :=
 (r_onL h (Runs.onP (Nat.le_trans hz (by decide)) (Runs.pure hQ)) : Runs (onL v fun xs => onP (xs.length ≤ 10000000) (M.pure (.tup xs))) st Q)
noncomputable def STs (es : Es1) : Prop := es.length < 64 ∧ ∀ e ∈ es, (∃ x, e.1 = .s x) ∧ TOk e.2
theorem sts_key {k : Str} (hE : STs es) (hk : k ∈ isort strLe (es.map fun e => e.1.str)) : ∃ v, dGet es (.s k) = some v ∧ TOk v := by
 obtain ⟨e, he, hek⟩ := List.mem_map.mp (isort_mem hk)
 obtain ⟨x, hx⟩ := (hE.2 e he).1
 rw [hx] at hek
 obtain ⟨v, hv, hve⟩ := dGet_in (es := es) (k := .s k) (List.mem_map.mpr ⟨e, he, by rw [hx, ← hek]; rfl⟩)
 exact ⟨v, hv, (hE.2 _ hve).2⟩
noncomputable def tkO (es : Es1) (k : Str) : V := .tup [.str k, tw ((dGet es (.s k)).getD .nil)]
noncomputable def TI (es : Es1) (s : St) (l : List Str) (r acc : List V) (s' : St) : Prop := ∀ C : Prop, (∀ a b, s' = s → l = a ++ b → r = b.map .str → acc = a.map (tkO es) → C) → C
theorem told_d {n : Nat} {Q : V → St → Prop} (hd : dictR st (.ref j) = some (j, es)) (hj : j < st.n) (hE : STs es) (hQ : ∀ st', Ext st st' → Q (toldV (toldL es)) st') : Runs (callFn T (n + 7) true 277 [.ref j]) st Q := by
 have hk : dkeys es = (es.map fun e => e.1.str).map .str := by
  rw [List.map_map]
  exact List.map_congr_left fun e he => by obtain ⟨x, hx⟩ := (hE.2 e he).1; show e.1.toV = .str e.1.str; rw [hx]; rfl
 refine c_open (fn := f277) rfl rfl rfl ?_
 refine s_cons (s_asg (r_callF (r_cons (r_loc rfl (r_nil (kind_d (n := n + 5) (tag_d hd) ?_))))))
 refine s_cons (s_ife (Runs.of rfl (Runs.pure ?_)))
 refine s_cons (s_ife (Runs.of rfl ?_))
 refine s_cons (s_ret (r_bin (Runs.of rfl (r_bi (r_cons (r_compC (r_bi (r_cons (r_loc rfl (r_nil (b_sortDS hd (by rw [hk]; exact strsOf_map _) hE.1 ⟨_, listOf_ref push_f, ?_⟩)))))))))))
 have hkey := fun k => sts_key (k := k) hE
 have hlen : (isort strLe (es.map fun e => e.1.str)).length < 64 := by rw [isort_len, List.length_map]; exact hE.1
 have hL : toldL es = (isort strLe (es.map fun e => e.1.str)).map fun k => (k, dGet es (.s k)) := rfl
 generalize isort strLe (es.map fun e => e.1.str) = l at hkey hlen hL ⊢
 have hsame : ∀ k, sameKind (.s k) es = true := fun k => kind_of fun e he => by obtain ⟨x, hx⟩ := (hE.2 e he).1; rw [hx]; rfl
 have hd' : dictR (st.push (.list (l.map .str))) (.ref j) = some (j, es) := by
  show (((st.push _).f j).dict?.or ((st.push _).f j).ldict?).map _ = _
  rw [push_ne hj]; exact hd
 have hx : Ext st (st.push (.list (l.map .str))) := (Ext.refl st).push _
 have hf : (st.push (.list (l.map .str))).f st.n = .list (l.map .str) := push_f
 generalize st.push (.list (l.map .str)) = s at hd' hx hf ⊢
 refine comp_lst (xs := l.map .str) (TI es s l) (fun r acc s' i h => h _ fun a b e _ _ _ => by subst e; exact congrArg (Option.map _) (listOf_ref hf)) ?_ ?_ (l.map .str) fuelW 0 Loc.none [] _ rfl (by rw [List.length_map]; exact Nat.lt_trans hlen (by decide)) (fun C m => m [] l rfl rfl rfl rfl)
 ·intro u r acc loc s' R h hR
  refine h _ fun a b e e1 e2 e3 => ?_
  cases e
  cases b with
  | nil => cases e2
  | cons k b =>
   obtain ⟨rfl, rfl⟩ := List.cons.inj e2
   obtain ⟨v, hv, tok⟩ := hkey k (by rw [e1]; exact List.mem_append_right _ (List.mem_cons_self ..))
   refine ⟨_, rfl, r_cmpB (r_idx (r_up rfl (r_loc rfl (i_dct hd' rfl (hsame _) hv (r_lit (Runs.onP rfl (Runs.pure ⟨?_, ?_⟩)))))))⟩
   ·show (!v.isNil) = true; rw [tok.1]; rfl
   ·refine r_tup (r_cons (r_loc rfl (r_cons (r_callF (r_cons (r_idx (r_up rfl (r_loc rfl (i_dct hd' rfl (hsame _) hv (r_nil (Runs.of (tok.2.1 n _) (r_nil ⟨(lbr rfl), hR _ _ fun C m => m (a ++ [k]) b rfl ?_ rfl ?_⟩))))))))))))
    ·rw [e1, List.append_assoc]; rfl
    ·rw [e3, List.map_append]
     show _ = _ ++ [tkO es k]
     unfold tkO
     rw [hv]; rfl
 ·intro acc s' h
  refine h _ fun a b e e1 e2 e3 => ?_
  cases e
  cases b with
  | cons k b => cases e2
  | nil =>
   rw [List.append_nil] at e1
   subst e1
   have hl : acc.length ≤ 64 := by rw [e3, List.length_map]; exact Nat.le_of_lt hlen
   refine r_nil (b_tuple (listOf_ref push_f) (leK hl rfl) (Runs.onO rfl (Runs.onO rfl (Runs.onP (show 1 + acc.length ≤ 10000000 from Nat.le_trans (Nat.add_le_add_left hl 1) (by decide)) (Runs.pure (Runs.pure (Runs.pure (r_ret rfl ?_))))))))
   have := hQ _ (hx.push (.list acc))
   unfold toldV at this
   rw [hL, List.map_map] at this
   rw [e3] at this ⊢
   exact this
end
theorem toldV_dp {l : List (Str × Option V)} (h : ∀ p ∈ l, dp 11 (tw (p.2.getD .nil)) = true) : ∀ xs, toldV l = .tup xs → sames xs xs = true := fun xs e => by
 cases e
 refine sames_refl fun x hx => ?_
 rcases List.mem_cons.mp hx with rfl | hx
 ·rfl
 ·obtain ⟨p, hp, rfl⟩ := List.mem_map.mp hx
  have := h p hp
  show ((true && (dp 11 (tw (p.2.getD .nil)) && true)) = true)
  rw [this]; rfl
theorem c_inL {st : St} {n : Bool} {x : Int} {v : V} {l : List Int} {B : Bool → St → Prop} (h : listOf st v = some (l.map .int)) (hQ : B (nb n (l.contains x)) st) : Runs (cmpV .inL n (.int x) v) st B :=
 (Runs.onO rfl (r_onL h (Runs.onO (intsOf_map l) (Runs.pure hQ))) : Runs (onO (V.int? (.int x)) fun x => onL v fun ys => onO (intsOf ys) fun l => M.pure (nb n (l.contains x))) st B)
theorem map_snoc {α β : Type} (f : α → β) (l : List α) (a : α) : l.map f ++ [f a] = (l ++ [a]).map f := by rw [List.map_append]; rfl
theorem Kept.new' {t j : Nat} {s s' : St} {o : Ob} (k : Kept t s s') (h : s.n ≤ j ∨ j = t) : Kept t s (s'.set j o) := ⟨k.1, fun x hx hxt => (set_ne (h.elim (fun h => Nat.ne_of_lt (ltl hx h)) fun e => by rw [e]; exact hxt)).trans (k.2 x hx hxt)⟩
noncomputable def FI (tk c : Nat) (st : St) (ts : List Int) (S : Int → Prop) (k : Nat) (loc : Loc) (s : St) : Prop := ∀ C : Prop, (∀ (a : Int) (al : List Int) (m : Nat) (S' : Int → Prop), loc 59 = some (.ref tk) → loc 55 = some (.int c) → loc 19 = some (.ref st.n) → loc 7 = some (.int a) → st.n < s.n → Kept tk st s → 1 ≤ a → a + k = 11 + (ts.length : Int) + c →
 s.f st.n = .list (al.map .int) → s.f tk = .list ((ts ++ al).map .int) → nums c S = al ++ nums m S' → al.length + m = c → (∀ x, x ∈ ts ++ al ↔ S' x) → Bd2 (ts ++ al) → (∀ b, 1 ≤ b → b < a → S' b) → C) → C
theorem fi_end {m c : Nat} (h : m + 0 = c) : ¬ ((m : Nat) : Int) < c := by omega
theorem fi_go {m x c : Nat} (h : m + (x + 1) = c) : ((m : Nat) : Int) < c := by omega
theorem fi_step {a F : Int} {k t m x c : Nat} (hak : a + k = 11 + (t : Int) + c) (h1 : 1 ≤ a) (hle : a ≤ F) (hb : F ≤ ((9 + (t + m) : Nat) : Int) + 1) (hlen : m + (x + 1) = c) : ∃ k', k = k' + 1 ∧ a + 1 + k' = 11 + (t : Int) + c ∧ 1 ≤ a + 1 := ⟨k - 1, by omega, by omega, by omega⟩
theorem fi_lt {S : Int → Prop} {a b : Int} (h : ∀ b, 1 ≤ b → b < a → S b) (ha : S a) (b1 : 1 ≤ b) (b2 : b < a + 1) : S b := (Int.lt_or_eq_of_le (Int.le_of_lt_add_one b2)).elim (h b b1) fun e => e ▸ ha
theorem fi_0 {t c : Nat} (hz : t + c ≤ 60) : 10 + t + c < fuelW ∧ (1 : Int) + ((10 + t + c : Nat) : Int) = 11 + (t : Int) + c := ⟨by unfold fuelW; omega, by omega⟩
theorem free_ok {n tk c : Nat} {st : St} {ts : List Int} {S : Int → Prop} {Q : V → St → Prop} (hT : st.f tk = .list (ts.map .int)) (hS : ∀ x, x ∈ ts ↔ S x) (hB : Bd2 ts) (hz : ts.length + c ≤ 60) (ht : tk < st.n)
  (hQ : ∀ st', st'.f tk = .list ((ts ++ nums c S).map .int) → Kept tk st st' → Bd2 (ts ++ nums c S) → Q (.lst ((nums c S).map .int)) st') : Runs (callFn T (n + 1) true 598 [.ref tk, .int c]) st Q := by
 refine c_open (fn := f598) rfl rfl rfl ?_
 refine s_cons (s_asg (r_lst (r_nil ⟨Nat.zero_le _, ?_⟩)))
 refine s_cons (s_asg (r_lit ?_))
 have hft : st.n ≠ tk := Nat.ne_of_gt ht
 refine s_cons (s_whl (whl_inv (FI tk c st ts S) (fun k loc s R h hR => h _ fun a al m S' l59 l55 l19 l7 hn hk h1 hak hf hft' hnum hlen hS' hB' hlt => ?_) fuelW (10 + ts.length + c) _ _ (fi_0 hz).1
  (fun C m => m 1 [] c S rfl rfl rfl rfl (lts _) (Kept.refl tk st).push (Int.le_refl _) (fi_0 hz).2 push_f (by rw [List.append_nil]; exact (push_ne ht).trans hT) rfl (Nat.zero_add _) (fun x => by rw [List.append_nil]; exact hS x) (by rw [List.append_nil]; exact hB) fun b h1 h2 => absurd h1 (Int.not_le.mpr h2))))
 have hz1 : (al.map V.int).length ≤ 4000 := by rw [List.length_map]; exact leK (Nat.le_trans (Nat.le_trans (hlen ▸ Nat.le_add_right ..) (Nat.le_add_left ..)) hz) rfl
 refine r_cmpB (r_bi (r_cons (r_loc l19 (r_nil (b_len (listOf_ref hf) hz1 (r_loc l55 (c_lt ?_)))))))
 rw [List.length_map]
 cases m with
 | zero =>
  rw [nbF (fi_end hlen)]
  have hnum : nums c S = al := hnum.trans (List.append_nil al)
  rw [hnum] at hQ
  exact ⟨fun h => (by cases h), fun _ => s_cons (s_ret (r_loc l19 (Runs.pure (r_frzL hf (hQ _ ((set_ne hft.symm).trans hft') (hk.new (Nat.le_refl _)) hB')))))⟩
 | succ m =>
  rw [nbT (fi_go hlen)]
  refine ⟨fun _ => ?_, fun h => by cases h⟩
  have hb := free_bd hS' hB'
  rw [lApp] at hb
  obtain ⟨k', rfl, hk1, hk2⟩ := fi_step hak h1 (Int.not_lt.mp fun h => hb.1.2.1 (hlt _ hb.1.1 h)) hb.2 hlen
  refine s_cons (s_ife (r_cmpB (r_loc l7 (r_loc l59 (c_inL (listOf_ref hft') ?_)))))
  by_cases hSa : S' a
  ·rw [List.contains_iff_mem.mpr ((hS' a).mpr hSa)]
   exact Runs.pure (s_cons (s_asg (r_bin (r_loc l7 (r_lit (o_add (Runs.pure (hR k' _ _ (lts _) fun C mm => mm (a + 1) al (m + 1) S' l59 l55 l19 rfl hn hk hk2 hk1 hf hft' hnum hlen hS' hB' fun b b1 b2 => fi_lt hlt hSa b1 b2))))))))
  ·have hfr : free S' = a := free_is ⟨h1, hSa, hlt⟩
   have hnc : (ts ++ al).contains a = false := Bool.eq_false_iff.mpr fun h => hSa ((hS' a).mp (List.contains_iff_mem.mp h))
   rw [hnc]
   refine s_cons (s_ex (r_callB (r_loc l19 (y_append hf (r_cons (r_loc l7 (r_nil (m_append hf hz1 ?_))))))))
   have hft2 : (s.set st.n (.list (al.map .int ++ [.int a]))).f tk = .list ((ts ++ al).map .int) := (set_ne hft.symm).trans hft'
   refine s_cons (s_ex (r_callB (r_loc l59 (y_append hft2 (r_cons (r_loc l7 (r_nil (m_append hft2 (by rw [List.length_map, lApp]; exact leK (Nat.le_trans (Nat.add_le_add_left (hlen ▸ Nat.le_add_right ..) _) hz) rfl) ?_))))))))
   rw [hfr] at hb
   refine Runs.pure (s_cons (s_asg (r_bin (r_loc l7 (r_lit (o_add (Runs.pure (hR k' _ _ (lts _) fun C mm => mm (a + 1) (al ++ [a]) m (addS S' [a]) l59 l55 l19 rfl hn ((hk.new (Nat.le_refl _)).new' (.inr rfl)) hk2 hk1 ?_ ?_ ?_ ?_ ?_ ?_ ?_))))))))
   ·rw [set_ne hft, set_self]; exact congrArg Ob.list (map_snoc V.int al a)
   ·rw [set_self, ← List.append_assoc]; exact congrArg Ob.list (map_snoc V.int (ts ++ al) a)
   ·rw [hnum, List.append_assoc, ← hfr]; rfl
   ·rw [lApp, Nat.add_assoc, Nat.add_comm [a].length]; exact hlen
   ·rw [← List.append_assoc]; exact mem_snoc hS'
   ·rw [← List.append_assoc]; exact hB'.snoc (by rw [lApp]; exact hb.2)
   ·exact fun b b1 b2 => fi_lt (fun b c1 c2 => .inl (hlt b c1 c2)) (.inr (List.mem_singleton.mpr rfl)) b1 b2
noncomputable def tkv (p : Str × V) : V := .tup [.str p.1, p.2]
noncomputable def oS (k : Str) (o : Option V) : List (Str × V) := o.toList.map fun v => (k, v)
noncomputable def k3S (o : Option (V × V × V)) : List (Str × V) := (o.map fun p => [(("First" : Str), p.1), (("Last" : Str), p.2.1), (("Count" : Str), p.2.2)]).getD []
noncomputable def k3E (o : Option (V × V × V)) : Es1 := (o.map fun p => [(.s "First", p.1), (.s "Last", p.2.1), (.s "Count", p.2.2)]).getD []
noncomputable def rowS (a b : V) (p q d : Option V) (k : Option (V × V × V)) : List (Str × V) := [(("Title" : Str), a), (("Parent" : Str), b)] ++ oS "Prev" p ++ oS "Next" q ++ oS "Dest" d ++ k3S k
noncomputable def rowE (a b : V) (p q d : Option V) (k : Option (V × V × V)) : Es1 := [(.s "Title", a), (.s "Parent", b)] ++ optV (.s "Prev") p ++ optV (.s "Next") q ++ k3E k ++ optV (.s "Dest") d
noncomputable def toE (l : List (Str × V)) : Es1 := l.map fun p => (.s p.1, p.2)
theorem row_told (a b : V) (p q d : Option V) (k : Option (V × V × V)) : toldL (toE (rowS a b p q d k)) = toldL (rowE a b p q d k) := by
 cases p <;> cases q <;> cases d <;> rcases k with _ | ⟨x, y, z⟩ <;> kernel_rfl
theorem row_nodup (a b : V) (p q d : Option V) (k : Option (V × V × V)) : ((rowS a b p q d k).map (·.1)).Nodup := odt (by
 cases p <;> cases q <;> cases d <;> rcases k with _ | ⟨x, y, z⟩ <;> kernel_rfl)
noncomputable def kidO (d : Nat) (h : V) (kas : List Int) : Option (V × V × V) := if kas.isEmpty then none else some (rf (kas.headD 0), rf (kas.getLastD 0), .int (if openOf h then cnt d (kidsOf h) else -cnt d (kidsOf h)))
theorem kidE_O {d : Nat} {h : V} {kas : List Int} : kidE d h kas = k3E (kidO d h kas) := by
 unfold kidE kidO
 by_cases e : kas.isEmpty = true
 ·rw [if_pos e, if_pos e]; rfl
 ·rw [if_neg e, if_neg e]; rfl
theorem item_row {d : Nat} {h : V} {P : Int} {prev next : Option Int} {kas : List Int} : itemE d h P prev next kas = rowE (.obj 1 [.bytes (octH h), .bool false]) (rf P) (prev.map rf) (next.map rf) (destO h) (kidO d h kas) := by
 unfold itemE rowE
 rw [optV_rf, optV_rf, optV_dest, kidE_O]; rfl
theorem toE_opt {k : Str} {o : Option V} : toE (oS k o) = optV (.s k) o := by cases o <;> rfl
theorem toE_k3 {o : Option (V × V × V)} : toE (k3S o) = k3E o := by cases o <;> rfl
theorem toE_row {a b : V} {p q d : Option V} {k : Option (V × V × V)} : toE (rowS a b p q d k) = [(.s "Title", a), (.s "Parent", b)] ++ optV (.s "Prev") p ++ optV (.s "Next") q ++ optV (.s "Dest") d ++ k3E k := by
 rw [← toE_opt, ← toE_opt, ← toE_opt, ← toE_k3]
 unfold toE rowS
 rw [List.map_append, List.map_append, List.map_append, List.map_append]; rfl
noncomputable def EOk (e : DK × V) : Prop := (∃ x, e.1 = .s x) ∧ TOk e.2
theorem opt_ok {k : Str} {o : Option V} (h : ∀ v, o = some v → TOk v) : (optV (.s k) o).length ≤ 1 ∧ ∀ e ∈ optV (.s k) o, EOk e := by
 cases o with
 | none => exact ⟨Nat.zero_le _, fun e he => absurd he nmn⟩
 | some v => exact ⟨Nat.le_refl _, fun e he => by cases List.mem_singleton.mp he; exact ⟨⟨_, rfl⟩, h v rfl⟩⟩
theorem rf_ok {o : Option Int} : ∀ v, o.map rf = some v → TOk v := fun v e => by cases o with | none => cases e | some a => cases e; exact tok_rf a
theorem k3_ok {d : Nat} {h : V} {kas : List Int} : (k3E (kidO d h kas)).length ≤ 3 ∧ ∀ e ∈ k3E (kidO d h kas), EOk e := by
 unfold kidO
 by_cases e : kas.isEmpty = true
 ·rw [if_pos e]; exact ⟨Nat.zero_le _, fun e he => absurd he nmn⟩
 ·rw [if_neg e]
  refine ⟨Nat.le_refl _, fun e he => ?_⟩
  rcases List.mem_cons.mp he with rfl | he
  ·exact ⟨⟨_, rfl⟩, tok_rf _⟩
  ·rcases List.mem_cons.mp he with rfl | he
   ·exact ⟨⟨_, rfl⟩, tok_rf _⟩
   ·cases List.mem_singleton.mp he; exact ⟨⟨_, rfl⟩, tok_int _⟩
theorem app_ok {a b : Es1} {m n : Nat} (h1 : a.length ≤ m ∧ ∀ e ∈ a, EOk e) (h2 : b.length ≤ n ∧ ∀ e ∈ b, EOk e) : (a ++ b).length ≤ m + n ∧ ∀ e ∈ a ++ b, EOk e :=
 ⟨by rw [lApp]; exact Nat.add_le_add h1.1 h2.1, fun e he => (List.mem_append.mp he).elim (h1.2 e) (h2.2 e)⟩
theorem row_sts {a b : V} {p q d : Option V} {m : Nat} {h : V} {kas : List Int} (ha : TOk a) (hb : TOk b) (hp : ∀ v, p = some v → TOk v) (hq : ∀ v, q = some v → TOk v) (hd : ∀ v, d = some v → TOk v) :
  STs (rowE a b p q d (kidO m h kas)) ∧ STs (toE (rowS a b p q d (kidO m h kas))) := by
 have h0 : [(DK.s "Title", a), (DK.s "Parent", b)].length ≤ 2 ∧ ∀ e ∈ [(DK.s "Title", a), (DK.s "Parent", b)], EOk e := ⟨Nat.le_refl _, fun e he => by
  rcases List.mem_cons.mp he with rfl | he
  ·exact ⟨⟨_, rfl⟩, ha⟩
  ·cases List.mem_singleton.mp he; exact ⟨⟨_, rfl⟩, hb⟩⟩
 have h1 := app_ok (app_ok h0 (opt_ok (k := "Prev") hp)) (opt_ok (k := "Next") hq)
 have h2 := app_ok (app_ok h1 (k3_ok (d := m) (h := h) (kas := kas))) (opt_ok (k := "Dest") hd)
 have h3 := app_ok (app_ok h1 (opt_ok (k := "Dest") hd)) (k3_ok (d := m) (h := h) (kas := kas))
 rw [toE_row]
 exact ⟨⟨Nat.lt_of_le_of_lt h2.1 (by decide), h2.2⟩, ⟨Nat.lt_of_le_of_lt h3.1 (by decide), h3.2⟩⟩
theorem dest_ok {i k : Nat} {o : Bool} {ks : List V} (hk : k < 4) : ∀ v, destO (hv i k o ks) = some v → TOk v := fun v e => by
 obtain ⟨w, _, _, h⟩ := told_targ 0 st0 k hk
 change (if (targs.getD k .nil).isNil then none else some (targs.getD k .nil)) = some v at e
 cases hn : (targs.getD k .nil).isNil with
 | true => rw [hn] at e; cases e
 | false => rw [hn] at e; cases e; exact h hn
noncomputable def Kept2 (p q : Nat) (st st' : St) : Prop := st.n ≤ st'.n ∧ ∀ j, j < st.n → j ≠ p → j ≠ q → st'.f j = st.f j
section
variable {p q i : Nat} {a b c : St}
theorem Kept2.refl (p q : Nat) (a : St) : Kept2 p q a a := ⟨Nat.le_refl _, fun _ _ _ _ => rfl⟩
theorem Kept2.trans (x : Kept2 p q a b) (y : Kept2 p q b c) : Kept2 p q a c := ⟨Nat.le_trans x.1 y.1, fun j hj hp hq => (y.2 j (ltl hj x.1) hp hq).trans (x.2 j hj hp hq)⟩
theorem Ext.kept2 (x : Ext a b) : Kept2 p q a b := ⟨x.1, fun j hj _ _ => x.2 j hj⟩
theorem Kept.kept2 (x : Kept p a b) : Kept2 p q a b := ⟨x.1, fun j hj hp _ => x.2 j hj hp⟩
theorem Ext.but (x : Ext a b) (k : Kept i b c) (h : a.n ≤ i) : Ext a c := ⟨Nat.le_trans x.1 k.1, fun j hj => (k.2 j (ltl hj x.1) (Nat.ne_of_lt (ltl hj h))).trans (x.2 j hj)⟩
end
noncomputable def DueAt (tk du : Nat) (s : St) (cs : List (Int × Es1)) (e : DK × V) : Prop := ∀ C : Prop, (∀ c j es2, c ∈ cs → e = (.i c.1, .ref j) → j < s.n → j ≠ tk → j ≠ du → s.f j = .dict es2 → toldL es2 = toldL c.2 → STs es2 → STs c.2 → C) → C
theorem DueAt.mono {tk du : Nat} {s s' : St} {cs cs' : List (Int × Es1)} {e : DK × V} (h : DueAt tk du s cs e) (k : Kept2 tk du s s') (hc : ∀ c ∈ cs, c ∈ cs') : DueAt tk du s' cs' e := fun C m =>
 h _ fun c j es2 h1 h2 h3 h4 h5 h6 h7 h8 h9 => m c j es2 (hc c h1) h2 (ltl h3 k.1) h4 h5 ((k.2 j h3 h4 h5).trans h6) h7 h8 h9
noncomputable def LL (tk du : Nat) (s : St) (ds : Es1) (ts : List Int) (q : Lay) (s' : St) : Prop := ∀ C : Prop, (∀ ds', s'.f tk = .list ((ts ++ q.1).map .int) → s'.f du = .dict ds' → Bd2 (ts ++ q.1) → Kept2 tk du s s' → ds'.length ≤ ds.length + q.2.length → (∀ e ∈ ds', e ∈ ds ∨ DueAt tk du s' q.2 e) → C) → C
theorem LL.kinds {tk du : Nat} {s : St} {cs : List (Int × Es1)} {ds ds' : Es1} (hk : ∀ e ∈ ds, e.1.kind = 1) (h : ∀ e ∈ ds', e ∈ ds ∨ DueAt tk du s cs e) : ∀ e ∈ ds', e.1.kind = 1 := fun e he => (h e he).elim (hk e) fun h => h _ fun c j es2 _ h _ _ _ _ _ _ _ => by rw [h]; rfl
theorem ll_len {a b c d e f : Nat} (h5 : a ≤ b + c) (hl : d ≤ a + 1) (a5 : e ≤ d + f) : e ≤ b + (c + (f + 1)) := by omega
theorem LL.step {tk du j : Nat} {s s1 s2 s3 : St} {ds ds1 es2 it : Es1} {ts : List Int} {a : Int} {qk qr : Lay} (h4 : Kept2 tk du s s1) (h5 : ds1.length ≤ ds.length + qk.2.length) (h6 : ∀ e ∈ ds1, e ∈ ds ∨ DueAt tk du s1 qk.2 e)
  (k2 : Kept2 tk du s1 s2) (j1 : j < s2.n) (j2 : j ≠ tk) (j3 : j ≠ du) (j4 : s2.f j = .dict es2) (j5 : toldL es2 = toldL it) (j6 : STs es2) (j7 : STs it) (h : LL tk du s2 (dSet ds1 (.i a) (.ref j)) (ts ++ qk.1) qr s3) : LL tk du s ds ts (qk.1 ++ qr.1, qk.2 ++ (a, it) :: qr.2) s3 := fun C m =>
 h _ fun ds3 a1 a2 a3 a4 a5 a6 => by
  rw [List.append_assoc] at a1 a3
  refine m ds3 a1 a2 a3 ((h4.trans k2).trans a4) ?_ fun e he => ?_
  ·rw [lApp]; exact ll_len h5 dSet_len a5
  ·rcases a6 e he with h | h
   ·rcases dSet_mem h with h | h
    ·exact (h6 e h).imp id fun h => h.mono (k2.trans a4) fun c hc => List.mem_append_left _ hc
    ·exact .inr fun C m => m (a, it) j es2 (List.mem_append_right _ (List.mem_cons_self ..)) h (ltl j1 a4.1) j2 j3 ((a4.2 j j1 j2 j3).trans j4) j5 j6 j7
   ·exact .inr (h.mono (Kept2.refl ..) fun c hc => List.mem_append_right _ (List.mem_cons_of_mem _ hc))
section
variable {call : Bool → Addr → List V → M V} {q : Bool} {loc : Loc} {st : St} {Q : Fl × Loc → St → Prop} {c e : E} {i x : Nat} {kvs : List (Str × V)} {k : Str} {o : Option V}
theorem s_app (hl : loc x = some (.ref i)) (hd : st.f i = .list (kvs.map tkv)) (hi : i < st.n) (hz : kvs.length ≤ 100) (hc : ∀ B : Bool → St → Prop, B o.isSome st → RB1 (call q) q loc Loc.none c st B) (he : ∀ v, o = some v → ∀ R : V → St → Prop, (∀ st', Ext st st' → R v st') → RV1 (call q) q loc Loc.none e st R)
  (hQ : ∀ s', s'.f i = .list ((kvs ++ oS k o).map tkv) → Kept i st s' → Q (.next, loc) s') : RS1 call q loc (.ife c (.cons (.ex (.callB .append (.loc x) (.cons (.tup (.cons (.lit (.str k)) (.cons e .nil))) .nil))) .nil) .nil) st Q := by
 refine s_ife (hc _ ?_)
 cases o with
 | none => exact Runs.pure (hQ _ (by rw [hd]; exact congrArg (fun z => Ob.list (List.map tkv z)) (List.append_nil kvs).symm) (Kept.refl ..))
 | some v =>
  refine s_cons (s_ex (r_callB (r_loc hl (y_append hd (r_cons (r_tup (r_cons (r_lit (r_cons (he v rfl _ fun s1 x1 => ?_))))))))))
  have hd1 : s1.f i = .list (kvs.map tkv) := (x1.2 i hi).trans hd
  refine r_nil ⟨(lbr rfl), r_nil (m_append hd1 (by rw [List.length_map]; exact leK hz rfl) (Runs.pure (hQ _ ?_ (x1.kept.trans Kept.set))))⟩
  rw [set_self]; exact congrArg Ob.list (map_snoc tkv kvs (k, v))
end
theorem pairs_of : ∀ l : List (Str × V), allOf pairOf (l.map tkv) = some l
 | [] => rfl
 | x :: l => by
  show (some x).bind (fun y => (allOf pairOf (l.map tkv)).map (y :: ·)) = _
  rw [pairs_of l]; rfl
theorem b_dict {v : V} {kvs : List (Str × V)} {st : St} {Q : V → St → Prop} (h : listOf st v = some (kvs.map tkv)) (hz : kvs.length ≤ 1000) (hn : (kvs.map (·.1)).Nodup) (hQ : Q (.ref st.n) (st.push (.dict (toE kvs)))) : Runs (biV true .dict [v]) st Q :=
 (Runs.onP rfl (r_onL h (Runs.onO (pairs_of kvs) (Runs.onP ⟨hz, hn⟩ ⟨_, _, rfl, hQ⟩))) : Runs (onP (true = true) (onL v fun xs => onO (allOf pairOf xs) fun kvs => onP (kvs.length ≤ 1000 ∧ (kvs.map (·.1)).Nodup) (mPush (.dict (kvs.map fun p => (.s p.1, p.2)))))) st Q)
theorem o_addL {a b : V} {xs ys : List V} {st : St} {Q : V → St → Prop} (h1 : listOf st a = some xs) (h2 : listOf st b = some ys) (hz : xs.length + ys.length ≤ 4000) (hQ : Q (.ref st.n) (st.push (.list (xs ++ ys)))) : Runs (opV .addL a b) st Q :=
 (r_onL h1 (r_onL h2 (Runs.onP (Nat.le_trans hz (by decide)) ⟨_, _, rfl, hQ⟩)) : Runs (onL a fun x => onL b fun y => onP (x.length + y.length ≤ 10000000) (mPush (.list (x ++ y)))) st Q)
theorem seen_ok4 {d n : Nat} {st : St} {hs : List V} {Q : V → St → Prop} (h : HeadsOk d hs) (hd : d ≤ 3) (hQ : Q (.int (cnt d hs)) st) : Runs (callFn T (n + 4) true 591 [.lst hs]) st Q := by
 have := seen_ok d (n + (3 - d)) st hs Q h hd hQ
 rwa [show n + (3 - d) + d + 1 = n + 4 from congrArg (· + 1) ((Nat.add_assoc ..).trans (congrArg (n + ·) (Nat.sub_add_cancel hd)))] at this
theorem head_int {kas : List Int} (h0 : kas ≠ []) : (kas.map V.int)[0]? = some (.int (kas.headD 0)) := by cases kas with | nil => exact absurd rfl h0 | cons a r => rfl
theorem last_int {kas : List Int} (h0 : kas ≠ []) : (kas.map V.int)[(kas.map V.int).length - 1]? = some (.int (kas.getLastD 0)) := by
 rw [← List.getLast?_eq_getElem?, List.getLast?_map]
 cases kas with | nil => exact absurd rfl h0 | cons a r => rw [List.getLast?_cons, List.getLastD_cons, List.getLastD_eq_getLast?]; rfl
theorem r_newrf {n : Nat} {x : Int} {e : E} {loc : Loc} {s : St} {Q : V → St → Prop} (hQ : ∀ s', Ext s s' → Q (rf x) s') (h : ∀ R : V → St → Prop, R (.int x) s → RV1 (callFn T (n + 1) true) true loc Loc.none e s R) : RV1 (callFn T (n + 1) true) true loc Loc.none (.new 2 (.cons e (.cons (.lit (.int 0)) .nil))) s Q :=
 r_new (r_cons (h _ (r_cons (r_lit (r_nil (new_ref fun s1 x1 => hQ s1 x1))))))
theorem pos_int {l : List Int} (h : l ≠ []) : ¬ ((l.length : Nat) : Int) ≤ 0 := fun e => h (List.eq_nil_of_length_eq_zero (Nat.le_zero.mp (Int.ofNat_le.mp e)))
theorem due_kids {n d i1 k j : Nat} {o : Bool} {kk : List V} {kas : List Int} {loc : Loc} {s : St} {kvs : List (Str × V)} {Q : Fl × Loc → St → Prop} (hok : HeadsOk d kk) (hd : d ≤ 3) (l58 : loc 58 = some (hv i1 k o kk)) (l24 : loc 24 = some (.lst (kas.map .int))) (hkl : kas.length = kk.length)
  (l22 : loc 22 = some (.ref j)) (hj : s.f j = .list (kvs.map tkv)) (hjn : j < s.n) (hz : kvs.length ≤ 100) (hQ : ∀ lc s' j', (∀ x, x ≠ 48 → x ≠ 22 → lc x = loc x) → Ext s s' → lc 22 = some (.ref j') → s'.f j' = .list ((kvs ++ k3S (kidO d (hv i1 k o kk) kas)).map tkv) → Q (.next, lc) s') :
  RS1 (callFn T (n + 20)) true loc (.ife (.cmp .le true (.bi .lenL (.cons (.loc 24) .nil)) (.lit (.int 0))) (.cons (.asg 48 (.callF 591 (.cons (.attr (.loc 58) 10) .nil))) (.cons (.asg 22 (.bin .addL (.loc 22) (.lst (.cons (.tup (.cons (.lit (.str "First")) (.cons (.new 2 (.cons (.idx .lst (.loc 24) (.lit (.int 0))) (.cons (.lit (.int 0)) .nil))) .nil))) (.cons (.tup (.cons (.lit (.str "Last")) (.cons (.new 2 (.cons (.idx .lst (.loc 24) (.neg (.lit (.int 1)))) (.cons (.lit (.int 0)) .nil))) .nil))) (.cons (.tup (.cons (.lit (.str "Count")) (.cons (.ite (.attr (.loc 58) 9) (.loc 48) (.neg (.loc 48))) .nil))) .nil)))))) .nil)) .nil) s Q := by
 have hkz : (kas.map V.int).length ≤ 4000 := by rw [List.length_map, hkl]; exact leK (heads_len hok hd) rfl
 refine s_ife (r_cmpB (r_bi (r_cons (r_loc l24 (r_nil (b_len (xs := kas.map .int) rfl hkz (r_lit (c_le ?_))))))))
 rw [List.length_map]
 by_cases h0 : kas = []
 ·subst h0
  exact Runs.pure (hQ loc s j (fun _ _ _ => rfl) (Ext.refl s) l22 (by rw [hj]; exact congrArg (fun z => Ob.list (List.map tkv z)) (List.append_nil kvs).symm))
 ·have hp : 0 < (kas.map V.int).length := by rw [List.length_map]; exact List.length_pos_iff.mpr h0
  rw [ndF (pos_int h0)]
  refine s_cons (s_asg (r_callF (r_cons (r_attr (r_loc l58 (Runs.of rfl (r_nil (seen_ok4 (n := n + 16) hok hd ?_))))))))
  refine s_cons (s_asg (r_bin (r_loc l22 (r_lst (r_cons (r_tup (r_cons (r_lit (r_cons (r_newrf (x := kas.headD 0) (fun s1 x1 => ?_) fun R hR => r_idx (r_loc l24 (r_lit (i_lst rfl (idxAt_nat (k := 0) hp hkz) (head_int h0) hR)))))))))))))
  refine r_nil ⟨(lbr rfl), r_cons (r_tup (r_cons (r_lit (r_cons (r_newrf (x := kas.getLastD 0) (fun s2 x2 => ?_) fun R hR => r_idx (r_loc l24 (Runs.of rfl (i_lst rfl (idxAt_last hp hkz) (last_int h0) hR))))))))⟩
  have x12 := x1.trans x2
  refine r_nil ⟨(lbr rfl), r_cons (r_tup (r_cons (r_lit (r_cons (Runs.of (a := .int (if o then cnt d kk else -cnt d kk)) (st' := s2) ?_ (r_nil ⟨(lbr rfl), r_nil ⟨(lbr rfl), ?_⟩⟩))))))⟩
  ·have : RV1 (callFn T (n + 20) true) true (loc.put 48 (.int (cnt d kk))) Loc.none (.ite (.attr (.loc 58) 9) (.loc 48) (.neg (.loc 48))) s2 fun v st' => v = .int (if o then cnt d kk else -cnt d kk) ∧ st' = s2 := by
    refine r_ite (r_tr (r_attr (r_loc l58 (Runs.of rfl ⟨o, rfl, ?_⟩))) rfl)
    cases o with
    | true => exact r_loc rfl ⟨rfl, rfl⟩
    | false => exact Runs.of rfl ⟨rfl, rfl⟩
   obtain ⟨_, _, e, rfl, rfl⟩ := this
   exact e
  ·refine o_addL (xs := kvs.map tkv) (listOf_ref ((push_ne (ltl hjn x12.1)).trans ((x12.2 j hjn).trans hj))) (listOf_ref push_f) (by rw [List.length_map]; exact leK (Nat.add_le_add_right hz 3) rfl) (Runs.pure (hQ _ _ _ (fun x h1 h2 => (if_neg h2).trans (if_neg h1)) ((x12.push _).push _) rfl ?_))
   rw [push_f, List.map_append]
   refine congrArg (fun z => Ob.list (kvs.map tkv ++ z)) ?_
   unfold kidO
   rw [if_neg (fun e => h0 (List.isEmpty_iff.mp e))]; rfl
noncomputable def LLAt (n tk du d : Nat) : Prop := ∀ (hs : List V) (P : Int) (st : St) (ds : Es1) (ts : List Int) (S : Int → Prop) (Q : V → St → Prop), HeadsOk d hs → st.f tk = .list (ts.map .int) → st.f du = .dict ds → (∀ e ∈ ds, e.1.kind = 1) → (∀ x, x ∈ ts ↔ S x) → Bd2 ts →
 ts.length + (lay d hs P S).1.length ≤ 60 → ds.length + (lay d hs P S).2.length ≤ 60 → tk < st.n → du < st.n → tk ≠ du → (∀ st', LL tk du st ds ts (lay d hs P S) st' → Q (.lst ((nums hs.length S).map .int)) st') → Runs (callFn T n true 605 [.lst hs, .int P, .ref tk, .ref du]) st Q
theorem LL.refl {tk du : Nat} {s : St} {ds : Es1} {ts : List Int} (h1 : s.f tk = .list (ts.map .int)) (h2 : s.f du = .dict ds) (hB : Bd2 ts) : LL tk du s ds ts ([], []) s := fun C m =>
 m ds (by rw [List.append_nil]; exact h1) h2 (by rw [List.append_nil]; exact hB) (Kept2.refl ..) (Nat.le_refl _) fun e he => .inl he
theorem i_int {s : St} {v : V} {as : List Int} {x : Int} {k : Nat} {a : Int} {Q : V → St → Prop} (h : listOf s v = some (as.map .int)) (hx : x = k) (ha : as[k]? = some a) (hz : as.length ≤ 4000) (hQ : Q (.int a) s) : Runs (idxV .lst v (.int x)) s Q := by
 subst hx
 exact i_lst h (idxAt_nat (by rw [List.length_map]; exact (List.getElem?_eq_some_iff.mp ha).1) (by rw [List.length_map]; exact hz)) (by rw [List.getElem?_map, ha]; rfl) hQ
theorem oS_len {k : Str} {o : Option V} : (oS k o).length ≤ 1 := by cases o <;> exact (lbr rfl)
theorem app_len {l : List (Str × V)} {k : Str} {o : Option V} {m : Nat} (h : l.length ≤ m) : (l ++ oS k o).length ≤ m + 1 := by rw [lApp]; exact Nat.add_le_add h oS_len
theorem d_len {a b c e f : Nat} (h : a ≤ b + c) (hl : e ≤ a + 1) (hz : b + (c + (f + 1)) ≤ 60) : e + f ≤ 60 ∧ a ≤ 60 := by omega
noncomputable def DI (tk du d : Nat) (P : Int) (st : St) (ds : Es1) (ts : List Int) (S : Int → Prop) (hs : List V) (as : List Int) (i : Nat) (loc : Loc) (s : St) : Prop := ∀ C : Prop, (∀ ds' ts' S', loc 37 = some (.lst hs) → loc 42 = some (.int P) → loc 59 = some (.ref tk) → loc 60 = some (.ref du) → loc 61 = some (.lst (as.map .int)) → tk < s.n → du < s.n →
 s.f tk = .list (ts'.map .int) → s.f du = .dict ds' → (∀ e ∈ ds', e.1.kind = 1) → (∀ x, x ∈ ts' ↔ S' x) → Bd2 ts' → ts'.length + (layR (lay d) d P (hs.drop i) (as.drop i) (prevOf as i) S').1.length ≤ 60 → ds'.length + (layR (lay d) d P (hs.drop i) (as.drop i) (prevOf as i) S').2.length ≤ 60 →
 (∀ s', LL tk du s ds' ts' (layR (lay d) d P (hs.drop i) (as.drop i) (prevOf as i) S') s' → LL tk du st ds ts (lay (d + 1) hs P S) s') → C) → C
theorem ll_step {n tk du d : Nat} (IH : LLAt (n + 20) tk du d) (hd : d ≤ 2) : LLAt (n + 21) tk du (d + 1) := by
 intro hs P st ds ts S Q hok hT hD hk hS hB hz hz2 htk hdu hne hQ
 have hhl : hs.length ≤ 3 := heads_len hok (Nat.succ_le_succ hd)
 have hd3 : d ≤ 3 := Nat.le_succ_of_le hd
 have hz1 := len3 (c := 0) (show ts.length + (nums hs.length S ++ (layR (lay d) d P hs (nums hs.length S) none (addS S (nums hs.length S))).1).length ≤ 60 from hz)
 rw [nums_len] at hz1
 refine c_open (fn := f605) rfl (Bool.and_false (clos hs)) rfl ?_
 refine s_cons (s_asg (r_callF (r_cons (r_loc rfl (r_cons (r_bi (r_cons (r_loc rfl (r_nil (b_len (xs := hs) rfl (leK hhl rfl) (r_nil (free_ok (n := n + 19) hT hS hB hz1.1 htk fun s1 a1 a2 a3 => ?_))))))))))))
 have hasl : (nums hs.length S).length = hs.length := nums_len _ _
 have hlay : lay (d + 1) hs P S = (nums hs.length S ++ (layR (lay d) d P hs (nums hs.length S) none (addS S (nums hs.length S))).1, (layR (lay d) d P hs (nums hs.length S) none (addS S (nums hs.length S))).2) := rfl
 rw [hlay] at hz2
 generalize nums hs.length S = as at *
 have hasz : as.length ≤ 4000 := by rw [hasl]; exact leK hhl rfl
 refine s_cons (s_for (r_bi (r_cons (r_bi (r_cons (r_loc rfl (r_nil (b_len (xs := hs) rfl (leK hhl rfl) (r_nil (b_range (l_rng (leK hhl rfl) ?_)))))))))))
 refine for_rng (c := hs.length) (DI tk du d P st ds ts S hs as) (fun i loc s R hi h hR => h _ fun ds' ts' S' l37 l42 l59 l60 l61 ht1 ht2 b1 b2 b3 b4 b5 b6 b8 b7 => ?_) (fun loc s h => h _ fun ds' ts' S' l37 l42 l59 l60 l61 ht1 ht2 b1 b2 b3 b4 b5 b6 b8 b7 => ?_) hs.length fuelW 0 _ s1 (Nat.zero_add _) (fuel_of hhl rfl)
  (fun C k => k ds (ts ++ as) (addS S as) rfl rfl rfl rfl rfl (ltl htk a2.1) (ltl hdu a2.1) a1 ((a2.2 du hdu hne.symm).trans hD) hk (mem_app hS) a3 (by rw [lApp, hasl]; exact hz1.2) hz2 fun s' hL => ?_)
 ·obtain ⟨u, hu, hdu'⟩ := drop_at hi
  obtain ⟨a, ha, hda⟩ := drop_at (l := as) (i := i) (by rw [hasl]; exact hi)
  obtain ⟨i1, k, o, kk, rfl, hi1, hk4, hokk, hkk⟩ := hok.2 u (List.mem_of_getElem? hu)
  have hai : i < as.length := by rw [hasl]; exact hi
  refine s_cons (s_asg (r_idx (r_loc l37 (r_loc rfl (i_lst rfl (idxAt_nat hi (leK hhl rfl)) hu ?_)))))
  refine s_cons (s_asg (r_lst (r_cons (r_tup (r_cons (r_lit (r_cons (r_new (r_cons (r_callF (r_cons (Runs.of rfl (r_nil (Runs.of (oct_all (n + 12) s i1 hi1) (r_nil (new_str fun s2 x2 => r_nil ⟨(lbr rfl), ?_⟩))))))))))))))))
  refine r_cons (r_tup (r_cons (r_lit (r_cons (r_newrf (x := P) (fun s3 x3 => r_nil ⟨(lbr rfl), r_nil ⟨(lbr rfl), ?_⟩⟩) fun R hR => r_loc l42 hR)))))
  rw [← octH_hv i1 k o kk hi1]
  have x23 := x2.trans x3
  have f4 : (s3.push (.list ([((("Title" : Str)), V.obj 1 [.bytes (octH (hv i1 k o kk)), .bool false]), ("Parent", rf P)].map tkv))).f s3.n = .list ([((("Title" : Str)), V.obj 1 [.bytes (octH (hv i1 k o kk)), .bool false]), ("Parent", rf P)].map tkv) := push_f
  have x4 : Ext s (s3.push (.list ([((("Title" : Str)), V.obj 1 [.bytes (octH (hv i1 k o kk)), .bool false]), ("Parent", rf P)].map tkv))) := x23.push _
  have n4 : s3.n < (s3.push (.list ([((("Title" : Str)), V.obj 1 [.bytes (octH (hv i1 k o kk)), .bool false]), ("Parent", rf P)].map tkv))).n := lts _
  have hj0 : s.n ≤ s3.n := x23.1
  show RSs _ _ _ _ (s3.push (.list ([((("Title" : Str)), V.obj 1 [.bytes (octH (hv i1 k o kk)), .bool false]), ("Parent", rf P)].map tkv))) _
  have hb0 : [((("Title" : Str)), V.obj 1 [.bytes (octH (hv i1 k o kk)), .bool false]), ("Parent", rf P)].length ≤ 2 := Nat.le_refl _
  have hrw : rowS (.obj 1 [.bytes (octH (hv i1 k o kk)), .bool false]) (rf P) ((prevOf as i).map rf) (((as.drop (i + 1)).head?).map rf) (destO (hv i1 k o kk)) (kidO d (hv i1 k o kk) (nums kk.length S')) = [((("Title" : Str)), V.obj 1 [.bytes (octH (hv i1 k o kk)), .bool false]), ("Parent", rf P)] ++ oS "Prev" ((prevOf as i).map rf) ++ oS "Next" (((as.drop (i + 1)).head?).map rf) ++ oS "Dest" (destO (hv i1 k o kk)) ++ k3S (kidO d (hv i1 k o kk) (nums kk.length S')) := rfl
  generalize [((("Title" : Str)), V.obj 1 [.bytes (octH (hv i1 k o kk)), .bool false]), ("Parent", rf P)] = base at f4 x4 n4 hb0 hrw ⊢
  generalize s3.push (.list (base.map tkv)) = s4 at f4 x4 n4 ⊢
  generalize s3.n = j at f4 n4 hj0 ⊢
  refine s_cons (s_app (o := (prevOf as i).map rf) rfl f4 n4 (Nat.le_trans hb0 (by decide)) (fun B hB => ?_) (fun v hv R hR => ?_) fun s5 f5 k5 => ?_)
  ·refine r_cmpB (r_loc rfl (r_lit (c_le ?_)))
   rw [prev_b hai]; exact hB
  ·obtain ⟨p, hp, rfl⟩ := mapS hv
   obtain ⟨k, e1, e2⟩ := prev_some hp
   exact r_newrf (n := n + 19) hR fun R hR => r_idx (r_loc l61 (r_bin (r_loc rfl (r_lit (o_sub (i_int rfl e1 e2 hasz hR))))))
  have n5 : j < s5.n := ltl n4 k5.1
  have hb1 := app_len (k := "Prev") (o := (prevOf as i).map rf) hb0
  refine s_cons (s_app (o := ((as.drop (i + 1)).head?).map rf) rfl f5 n5 (Nat.le_trans hb1 (by decide)) (fun B hB => ?_) (fun v hv R hR => ?_) fun s6 f6 k6 => ?_)
  ·refine r_cmpB (r_bin (r_loc rfl (r_lit (o_add (r_bi (r_cons (r_loc l61 (r_nil (b_len (xs := as.map .int) rfl (by rw [List.length_map]; exact hasz) (c_lt ?_))))))))))
   rw [List.length_map, next_b]; exact hB
  ·obtain ⟨p, hp, rfl⟩ := mapS hv
   exact r_newrf (n := n + 19) hR fun R hR => r_idx (r_loc l61 (r_bin (r_loc rfl (r_lit (o_add (i_int (k := i + 1) rfl rfl (next_some hp) hasz hR))))))
  have n6 : j < s6.n := ltl n5 k6.1
  have hb2 := app_len (k := "Next") (o := ((as.drop (i + 1)).head?).map rf) hb1
  refine s_cons (s_app (o := destO (hv i1 k o kk)) rfl f6 n6 (Nat.le_trans hb2 (by decide)) (fun B hB => ?_) (fun v hv R hR => ?_) fun s7 f7 k7 => ?_)
  ·refine r_cmpB (r_attr (r_loc rfl (Runs.of rfl (r_lit (Runs.onP rfl (Runs.pure ?_))))))
   rw [← dest_b (k := k)] at hB; exact hB
  ·have hR := hR s6 (Ext.refl s6)
   rw [← dest_some hv] at hR
   exact r_attr (r_loc rfl (Runs.of rfl hR))
  have n7 : j < s7.n := ltl n6 k7.1
  have x7 : Ext s s7 := ((x4.but k5 hj0).but k6 hj0).but k7 hj0
  have hb3 := app_len (k := "Dest") (o := destO (hv i1 k o kk)) hb2
  have hpr : prevOf as (i + 1) = some a := (if_neg (Nat.succ_ne_zero i)).trans ha
  rw [layR_cons hdu' hda] at b6 b7 b8
  have b6' := len3 (c := 0) b6
  rw [lApp, List.length_cons] at b8
  refine s_cons (s_asg (r_callF (r_cons (Runs.of rfl (r_cons (r_idx (r_loc l61 (r_loc rfl (i_int rfl rfl ha hasz (r_cons (r_loc l59 (r_cons (r_loc l60 (r_nil ?_))))))))))))))
  have ht7 := ltl ht1 x7.1
  have hd7 := ltl ht2 x7.1
  refine IH kk a s7 ds' ts' S' _ hkk ((x7.2 tk ht1).trans b1) ((x7.2 du ht2).trans b2) b3 b4 b5 b6'.1 (Nat.le_trans (Nat.add_le_add_left (Nat.le_add_right ..) _) b8) ht7 hd7 hne fun s8 hL => hL _ fun ds8 c1 c2 c3 c4 c5 c6 => ?_
  have f8 := (c4.2 j n7 (ne_up ht1 hj0) (ne_up ht2 hj0)).trans f7
  refine s_cons (due_kids (n := n) (loc := (((loc.put 1 (.int i)).put 58 (hv i1 k o kk)).put 22 (.ref j)).put 24 (.lst ((nums kk.length S').map .int))) hkk hd3 rfl rfl (nums_len _ _) rfl f8 (ltl n7 c4.1) (Nat.le_trans hb3 (by decide)) fun lc s9 j' l9 x9 l22 f9 => ?_)
  rw [← hrw] at f9
  have m61 : lc 61 = some (.lst (as.map .int)) := (l9 61 (by decide) (by decide)).trans l61
  have m1 : lc 1 = some (.int i) := l9 1 (by decide) (by decide)
  have m60 : lc 60 = some (.ref du) := (l9 60 (by decide) (by decide)).trans l60
  have htk9 : tk < s9.n := ltl (ltl ht7 c4.1) x9.1
  have hdu8 : du < s8.n := ltl hd7 c4.1
  have hdu9 := ltl hdu8 x9.1
  have sts := row_sts (m := d) (h := hv i1 k o kk) (kas := nums kk.length S') (tok_str (octH (hv i1 k o kk))) (tok_rf P) (rf_ok (o := prevOf as i)) (rf_ok (o := (as.drop (i + 1)).head?)) (dest_ok (i := i1) (o := o) (ks := kk) hk4)
  have tl := row_told (.obj 1 [.bytes (octH (hv i1 k o kk)), .bool false]) (rf P) ((prevOf as i).map rf) (((as.drop (i + 1)).head?).map rf) (destO (hv i1 k o kk)) (kidO d (hv i1 k o kk) (nums kk.length S'))
  have nd := row_nodup (.obj 1 [.bytes (octH (hv i1 k o kk)), .bool false]) (rf P) ((prevOf as i).map rf) (((as.drop (i + 1)).head?).map rf) (destO (hv i1 k o kk)) (kidO d (hv i1 k o kk) (nums kk.length S'))
  rw [← item_row] at sts tl
  generalize rowS (.obj 1 [.bytes (octH (hv i1 k o kk)), .bool false]) (rf P) ((prevOf as i).map rf) (((as.drop (i + 1)).head?).map rf) (destO (hv i1 k o kk)) (kidO d (hv i1 k o kk) (nums kk.length S')) = row at f9 sts tl nd
  have hrl : row.length ≤ 1000 := by
   have := sts.2.1
   rw [toE, List.length_map] at this
   exact Nat.le_trans (Nat.le_of_lt this) (by decide)
  have hdl := d_len c5 (dSet_len (es := ds8) (k := .i a) (v := .ref s9.n)) b8
  refine s_cons (s_asgIdx (r_bi (r_cons (r_loc l22 (r_nil (b_dict (listOf_ref f9) hrl nd (r_loc m60 (r_idx (r_loc m61 (r_loc m1 (i_int rfl rfl ha hasz (x_dct ((push_ne hdu9).trans ((x9.2 du hdu8).trans c2)) rfl (kind_of (LL.kinds b3 c6)) (leK hdl.2 rfl) ?_))))))))))))
  refine Runs.pure (hR _ _ fun C m => m (dSet ds8 (.i a) (.ref s9.n)) (ts' ++ (lay d kk a S').1) (addS S' (lay d kk a S').1) ((l9 37 (by decide) (by decide)).trans l37) ((l9 42 (by decide) (by decide)).trans l42) ((l9 59 (by decide) (by decide)).trans l59) m60 m61 (Nat.lt_succ_of_lt htk9) (Nat.lt_succ_of_lt hdu9) ?_ set_self ?_ (mem_app b4) c3 ?_ ?_ fun s' hL => ?_)
  ·exact (set_ne hne).trans ((push_ne htk9).trans ((x9.2 tk (ltl ht7 c4.1)).trans c1))
  ·intro e he
   rcases dSet_mem he with h | h
   ·exact LL.kinds b3 c6 e h
   ·rw [h]; rfl
  ·rw [hpr, lApp]; exact b6'.2
  ·rw [hpr]; exact hdl.1
  ·rw [hpr] at hL
   exact b7 s' (LL.step (s1 := s8) (x7.kept2.trans c4) c5 c6 ⟨Nat.le_succ_of_le x9.1, fun y hy h1 h2 => (set_ne h2).trans ((push_ne (ltl hy x9.1)).trans (x9.2 y hy))⟩ (lts s9.n) (Nat.ne_of_gt htk9) (Nat.ne_of_gt hdu9) ((set_ne (Nat.ne_of_gt hdu9)).trans push_f) tl sts.2 sts.1 hL)
 ·refine s_cons (s_ret (r_loc l61 (Runs.pure (r_ret rfl (hQ s (b7 s ?_))))))
  rw [show hs.drop hs.length = [] from List.drop_length]
  exact LL.refl b1 b2 b5
 ·rw [hlay]
  exact fun D m => hL _ fun ds3 c1 c2 c3 c4 c5 c6 => m ds3 (by rw [← List.append_assoc]; exact c1) c2 (by rw [← List.append_assoc]; exact c3) (a2.kept2.trans c4) c5 c6
theorem ll0 (n tk du : Nat) : LLAt (n + 2) tk du 0 := by
 intro hs P st ds ts S Q hok hT hD hk hS hB hz hz2 htk hdu hne hQ
 cases (show hs = [] from hok)
 refine c_open (fn := f605) rfl rfl rfl ?_
 refine s_cons (s_asg (r_callF (r_cons (r_loc rfl (r_cons (r_bi (r_cons (r_loc rfl (r_nil (b_len (xs := []) rfl (by decide) (r_nil ?_)))))))))))
 refine free_ok (n := n) (c := 0) hT hS hB (Nat.le_trans (Nat.le_add_right _ _) hz) htk fun s1 a1 a2 a3 => ?_
 refine s_cons (s_for (r_bi (r_cons (r_bi (r_cons (r_loc rfl (r_nil (b_len (xs := []) rfl (by decide) (r_nil (b_range (l_rng (c := 0) (by decide) (for_end rfl rfl ?_))))))))))))
 exact s_cons (s_ret (r_loc rfl (Runs.pure (r_ret rfl (hQ s1 fun C m => m ds a1 ((a2.2 du hdu hne.symm).trans hD) a3 a2.kept2 (Nat.le_refl _) fun e he => .inl he)))))
theorem ll3 (n tk du : Nat) : LLAt (n + 23) tk du 3 := ll_step (n := n + 2) (ll_step (n := n + 1) (ll_step (n := n) (ll0 (n + 18) tk du) (by decide)) (by decide)) (by decide)
theorem row_get (a b : V) (p q d : Option V) (k : Option (V × V × V)) : ([DK.s "Title", .s "Parent", .s "Prev", .s "Next", .s "First", .s "Last", .s "Count", .s "Dest", .s "A"].map fun x => dGet (rowE a b p q d k) x) = [some a, some b, p, q, k.map (·.1), k.map (·.2.1), k.map (·.2.2), d, none] := by
 cases p <;> cases q <;> cases d <;> rcases k with _ | ⟨x, y, z⟩ <;> kernel_rfl
theorem row_kind (a b : V) (p q d : Option V) (k : Option (V × V × V)) (x : Str) : sameKind (.s x) (rowE a b p q d k) = true := by
 cases p <;> cases q <;> cases d <;> rcases k with _ | ⟨x, y, z⟩ <;> rfl
theorem hd_get (k : Option (V × V × V)) (v : V) : ([DK.s "First", .s "Last", .s "Count"].map fun x => dGet ([(.s "Type", v)] ++ k3E k) x) = [k.map (·.1), k.map (·.2.1), k.map (·.2.2)] := by
 rcases k with _ | ⟨x, y, z⟩ <;> kernel_rfl
theorem hd_kind (k : Option (V × V × V)) (v : V) (x : Str) : sameKind (.s x) ([(.s "Type", v)] ++ k3E k) = true := by
 rcases k with _ | ⟨x, y, z⟩ <;> rfl
noncomputable def optN (o : Option V) : V := o.getD .nil
noncomputable def firstV (as : List Int) : V := optN (as.head?.map rf)
noncomputable def NoRf (st : St) (v : V) : Prop := isinV v (.cls 254) st = some (.ok false, st) ∧ slotL st v = none
theorem NoRf.dict {st : St} {j : Nat} {es : Es1} (h : st.f j = .dict es) : NoRf st (.ref j) := by
 refine ⟨?_, ?_⟩
 ·show onO (((st.f j).tag)) (fun t => onO (isTag t (.cls 254)) M.pure) st = _
  rw [h]; rfl
 ·show ((st.f j).list?.map fun xs => (j, xs)) = none
  rw [h]; rfl
theorem NoRf.targ {st : St} : ∀ k, k < 4 → NoRf st (targs.getD k .nil)
 | 0, _ => ⟨rfl, rfl⟩
 | 1, _ => ⟨rfl, rfl⟩
 | 2, _ => ⟨rfl, rfl⟩
 | 3, _ => ⟨rfl, rfl⟩
 | k + 4, h => absurd h (by omega)
section
variable {n t r j : Nat} {st : St} {es tab : Es1} {k : Str} {v w : V} {a : Int} {Q : V → St → Prop}
theorem fetch_val (h : NoRf st v) (hQ : Q v st) : Runs (callFn T (n + 1) true 299 [sh t r, v]) st Q := by
 refine c_open (fn := f299) rfl rfl rfl ?_
 refine s_cons (s_asg (r_loc rfl ?_))
 refine s_cons (s_for (Runs.of rfl (Runs.of rfl ?_)))
 refine for_turn rfl ?_
 refine s_cons (s_ife (r_notB (r_isinB (r_loc rfl (Runs.of h.1 ?_)))))
 refine s_cons (s_ret (Runs.of rfl ?_))
 exact Runs.pure (Runs.pure (Runs.pure (r_frz h.2 hQ)))
noncomputable def At (t : Nat) (st : St) (tab : Es1) (a : Int) (j : Nat) (es : Es1) : Prop := st.f t = .dict tab ∧ (∀ e ∈ tab, e.1.kind = 1) ∧ dGet tab (.i a) = some (.tup [.int 0, .ref j]) ∧ st.f j = .dict es
theorem fetch_at (h : At t st tab a j es) (hQ : Q (.ref j) st) : Runs (callFn T (n + 1) true 299 [sh t r, rf a]) st Q :=
 fetch_ref h.1 (kind_of h.2.1) h.2.2.1 (NoRf.dict h.2.2.2).1 (NoRf.dict h.2.2.2).2 hQ
theorem get_run (hd : st.f j = .dict es) (hs : sameKind (.s k) es = true) (hv : optN (dGet es (.s k)) = v) (h : ∀ R : V → St → Prop, (∀ x st', slotL st' x = none → Q x st' → R x st') → Runs (callFn T (n + 1) true 299 [sh t r, v]) st R) : Runs (callFn T (n + 2) true 306 [sh t r, .ref j, .str k]) st Q := by
 refine c_open (fn := f306) rfl rfl rfl ?_
 refine s_cons (s_ret (r_callO (r_loc rfl ⟨_, _, rfl, rfl, r_cons (r_callB (r_loc rfl (y_get1 hd (r_cons (r_loc rfl (r_nil (m_get1 hd rfl hs (r_nil ?_))))))))⟩)))
 rw [show (dGet es (.s k)).getD .nil = v from hv]
 exact h _ fun x st' h1 h2 => Runs.pure (r_ret h1 h2)
theorem get_val (hd : st.f j = .dict es) (hs : sameKind (.s k) es = true) (hv : optN (dGet es (.s k)) = v) (hn : NoRf st v) (hQ : Q v st) : Runs (callFn T (n + 2) true 306 [sh t r, .ref j, .str k]) st Q :=
 get_run hd hs hv fun R hR => fetch_val hn (hR v st hn.2 hQ)
theorem title_ok {i : Nat} (hd : st.f j = .dict es) (hs : sameKind (.s "Title") es = true) (hv : dGet es (.s "Title") = some (.obj 1 [.bytes (oct i), .bool false])) (hi : i < 10) (hQ : Q (.str (tit i)) st) : Runs (callFn T (n + 9) true 480 [sh t r, .ref j]) st Q := by
 refine c_open (fn := f480) rfl rfl rfl ?_
 refine s_cons (s_asg (r_callO (r_loc rfl ⟨_, _, rfl, rfl, r_cons (r_loc rfl (r_cons (r_lit (r_nil (get_val (n := n + 6) (v := .obj 1 [.bytes (oct i), .bool false]) hd hs (by rw [hv]; rfl) ⟨rfl, rfl⟩ ?_)))))⟩)))
 exact s_cons (s_ret (r_ite (Runs.of rfl (r_callF (r_cons (Runs.of rfl (r_nil (Runs.of (txt_all n st i hi) (Runs.pure (r_ret rfl hQ))))))))))
theorem target_ok {o : Option V} (hd : st.f j = .dict es) (hs : ∀ k, sameKind (.s k) es = true) (hv : dGet es (.s "Dest") = o) (hA : dGet es (.s "A") = none) (hn : NoRf st (optN o)) (hQ : Q (optN o) st) : Runs (callFn T (n + 3) true 473 [sh t r, .ref j]) st Q := by
 refine c_open (fn := f473) rfl rfl rfl ?_
 refine s_cons (s_ife (r_cmpB (r_lit (r_loc rfl (c_inD hd rfl (hs _) ?_)))))
 cases o with
 | some w =>
  rw [hv]
  exact s_cons (s_ret (r_idx (r_loc rfl (r_lit (i_dct (dictR_of hd) rfl (hs _) hv (Runs.pure (Runs.pure (r_ret hn.2 hQ))))))))
 | none =>
  rw [hv]
  refine Runs.pure (s_cons (s_asg (r_callO (r_loc rfl ⟨_, _, rfl, rfl, r_cons (r_loc rfl (r_cons (r_lit (r_nil (get_val (n := n) (v := .nil) hd (hs _) (by rw [hA]; rfl) ⟨rfl, rfl⟩ ?_)))))⟩))))
  exact s_cons (s_ife (Runs.of rfl (Runs.pure (s_cons (s_ret (r_lit (Runs.pure (r_ret rfl hQ))))))))
noncomputable def cntV (o : Option V) : Int := ((optN o).int?).getD 0
theorem count_ok {o : Option V} (hd : st.f j = .dict es) (hs : sameKind (.s "Count") es = true) (hv : dGet es (.s "Count") = o) (ho : o = none ∨ ∃ x, o = some (.int x)) (hQ : Q (.int (cntV o)) st) : Runs (callFn T (n + 3) true 487 [sh t r, .ref j]) st Q := by
 refine c_open (fn := f487) rfl rfl rfl ?_
 refine s_cons (s_asg (r_callO (r_loc rfl ⟨_, _, rfl, rfl, r_cons (r_loc rfl (r_cons (r_lit (r_nil (get_val (n := n) (v := optN o) hd hs (by rw [hv]) (by rcases ho with rfl | ⟨x, rfl⟩ <;> exact ⟨rfl, rfl⟩) ?_)))))⟩)))
 rcases ho with rfl | ⟨x, rfl⟩
 ·exact s_cons (s_ret (Runs.of rfl (Runs.pure (r_ret rfl hQ))))
 ·exact s_cons (s_ret (Runs.of rfl (Runs.pure (r_ret rfl hQ))))
end
theorem cg_0 {r : Nat} {x y : Int} (h1 : (r : Int) ≤ y) (h2 : 0 ≤ x) : ((r + 1 : Nat) : Int) ≤ (1 + x) + y := by omega
theorem cnt_ge : ∀ (d : Nat) {hs : List V}, HeadsOk d hs → (hs.length : Int) ≤ cnt d hs
 | 0, hs, h => by rw [show hs = [] from h]; exact Int.le_refl _
 | d + 1, hs, h => by
  have hall := h.2
  clear h
  induction hs with
  | nil => exact Int.le_refl _
  | cons u r ih =>
   have h1 := ih fun x hx => hall x (List.mem_cons_of_mem _ hx)
   obtain ⟨i, k, o, ks, rfl, _, _, _, hk⟩ := hall u (List.mem_cons_self ..)
   exact cg_0 h1 (by
    show 0 ≤ (if o then cnt d ks else 0)
    cases o
    ·exact Int.le_refl _
    ·exact Int.le_trans (Int.natCast_nonneg _) (cnt_ge d hk))
theorem rowR_len {G : Int × Es1 → Prop} {f : List V → Int → List Int → List Int → Prop} {d : Nat} {P : Int} : ∀ (hs : List V) (as : List Int) (prev : Option Int) (ns : List Int), RowR G f d P hs as prev ns → as.length = hs.length
 | [], as, _, ns, h => congrArg List.length h.1
 | h :: hs, as, _, ns, H => H.elim fun a H => H.elim fun ar H => H.elim fun kas H => H.elim fun kn H => H.elim fun rn H => (congrArg List.length H.1).trans (congrArg (· + 1) (rowR_len hs ar _ rn H.2.2.2.2))
theorem row_len {G : Int × Es1 → Prop} : ∀ (d : Nat) {hs : List V} {P : Int} {as ns : List Int}, HeadsOk d hs → Row G d hs P as ns → as.length = hs.length
 | 0, hs, _, _, _, h, hr => by rw [show hs = [] from h, hr.1]; rfl
 | d + 1, hs, _, as, ns, _, hr => rowR_len hs as none ns hr
theorem row_cases {G : Int × Es1 → Prop} {f : List V → Int → List Int → List Int → Prop} {d : Nat} {P : Int} {prev : Option Int} {as ns : List Int} {C : Prop} : ∀ {hs : List V}, RowR G f d P hs as prev ns → (hs = [] → as = [] → ns = [] → C) →
  (∀ h hr a ar kas kn rn, hs = h :: hr → as = a :: ar → ns = a :: (kn ++ rn) → G (a, itemE d h P prev ar.head? kas) → f (kidsOf h) a kas kn → RowR G f d P hr ar (some a) rn → C) → C
 | [], h, k, _ => k rfl h.1 h.2
 | h :: hr, H, _, k => H.elim fun a H => H.elim fun ar H => H.elim fun kas H => H.elim fun kn H => H.elim fun rn H => k h hr a ar kas kn rn rfl H.1 H.2.1 H.2.2.1 H.2.2.2.1 H.2.2.2.2
theorem kid_first {d : Nat} {h : V} {kas : List Int} : optN ((kidO d h kas).map (·.1)) = firstV kas := by
 cases kas <;> rfl
theorem kid_last {d : Nat} {h : V} {kas : List Int} : optN ((kidO d h kas).map (·.2.1)) = optN (kas.getLast?.map rf) := by
 cases kas with
 | nil => rfl
 | cons a r => show rf ((a :: r).getLastD 0) = _; rw [List.getLast?_cons, List.getLastD_cons, List.getLastD_eq_getLast?]; rfl
noncomputable def cntK (d : Nat) (o : Bool) (kk : List V) : Int := if o then cnt d kk else -cnt d kk
theorem kc_pos {r : Nat} {c : Int} (h : ((r + 1 : Nat) : Int) ≤ c) : ¬ c ≤ 0 := by omega
theorem kc_neg {c : Int} (h : ¬ c ≤ 0) : -c ≤ 0 := by omega
theorem kid_o {d : Nat} {o : Bool} {kk : List V} (hok : HeadsOk d kk) (ho : o = true → kk ≠ []) : (nb true (decide (cntK d o kk ≤ 0)) && !kk.isEmpty) = o := by
 cases kk with
 | nil =>
  cases o with
  | true => exact absurd rfl (ho rfl)
  | false => exact Bool.and_false _
 | cons u kr =>
  have hc := kc_pos (cnt_ge d hok)
  cases o with
  | true => rw [ndF (p := cntK d true (u :: kr) ≤ 0) hc]; rfl
  | false => rw [ndT (p := cntK d false (u :: kr) ≤ 0) (kc_neg hc)]; rfl
theorem kid_count {d i k : Nat} {o : Bool} {kk : List V} {kas : List Int} (hl : kas.length = kk.length) : ((kidO d (hv i k o kk) kas).map (·.2.2) = none ∨ ∃ x, (kidO d (hv i k o kk) kas).map (·.2.2) = some (.int x)) ∧ cntV ((kidO d (hv i k o kk) kas).map (·.2.2)) = cntK d o kk := by
 cases kas with
 | nil =>
  rw [List.eq_nil_of_length_eq_zero hl.symm]
  have h0 : cnt d [] = 0 := by cases d <;> rfl
  exact ⟨.inl rfl, show (0 : Int) = if o then cnt d [] else -cnt d [] by rw [h0]; cases o <;> rfl⟩
 | cons a r => exact ⟨.inr ⟨_, rfl⟩, rfl⟩
theorem Ext.at {t j : Nat} {s s' : St} {tab es : Es1} {a : Int} (x : Ext s s') (h : At t s tab a j es) (ht : t < s.n) (hj : j < s.n) : At t s' tab a j es := ⟨(x.2 t ht).trans h.1, h.2.1, h.2.2.1, (x.2 j hj).trans h.2.2.2⟩
noncomputable def Rd (t : Nat) (s0 : St) (tab : Es1) : Prop := s0.f t = .dict tab ∧ (∀ e ∈ tab, e.1.kind = 1) ∧ t < s0.n
theorem Rd.cell {t b : Nat} {s0 : St} {tab : Es1} {c : Int × Es1} {C : Prop} (h : Rd t s0 tab) (hc : Cell b t s0 tab c) (k : ∀ j, j < s0.n → (∀ s, Ext s0 s → At t s tab c.1 j c.2) → C) : C :=
 hc _ fun j h1 _ h2 _ h4 => k j h2 fun _ x => x.at ⟨h.1, h.2.1, h1, h4⟩ h.2.2 h2
theorem dest_val {i : Nat} {o : Bool} {ks : List V} : ∀ {k : Nat}, k < 4 → optN (destO (hv i k o ks)) = targs.getD k .nil
 | 0, _ => rfl
 | 1, _ => rfl
 | 2, _ => rfl
 | 3, _ => rfl
 | k + 4, h => absurd h (by omega)
noncomputable def IG (d i k : Nat) (o : Bool) (kk : List V) (P : Int) (prev next : Option Int) (kas : List Int) (es : Es1) : Prop := ∀ C : Prop, ((∀ x, sameKind (.s x) es = true) → dGet es (.s "Title") = some (.obj 1 [.bytes (oct i), .bool false]) → optN (dGet es (.s "Parent")) = rf P → optN (dGet es (.s "Prev")) = optN (prev.map rf) → optN (dGet es (.s "Next")) = optN (next.map rf) →
 optN (dGet es (.s "First")) = firstV kas → optN (dGet es (.s "Last")) = optN (kas.getLast?.map rf) → (∀ n t r j st Q, st.f j = .dict es → Q (targs.getD k .nil) st → Runs (callFn T (n + 3) true 473 [sh t r, .ref j]) st Q) → (∀ n t r j st Q, st.f j = .dict es → Q (.int (cntK d o kk)) st → Runs (callFn T (n + 3) true 487 [sh t r, .ref j]) st Q) → C) → C
theorem ig {d i k : Nat} {o : Bool} {kk : List V} {P : Int} {prev next : Option Int} {kas : List Int} (hi : i < 10) (hk : k < 4) (hl : kas.length = kk.length) : IG d i k o kk P prev next kas (itemE d (hv i k o kk) P prev next kas) := fun C m => by
 rw [item_row, octH_hv i k o kk hi] at m
 have g := row_get (.obj 1 [.bytes (oct i), .bool false]) (rf P) (prev.map rf) (next.map rf) (destO (hv i k o kk)) (kidO d (hv i k o kk) kas)
 have gK := row_kind (.obj 1 [.bytes (oct i), .bool false]) (rf P) (prev.map rf) (next.map rf) (destO (hv i k o kk)) (kidO d (hv i k o kk) kas)
 generalize rowE (.obj 1 [.bytes (oct i), .bool false]) (rf P) (prev.map rf) (next.map rf) (destO (hv i k o kk)) (kidO d (hv i k o kk) kas) = es at m g gK
 have gt (x : DK) (v : Option V) (j : Nat) (hx : [DK.s "Title", .s "Parent", .s "Prev", .s "Next", .s "First", .s "Last", .s "Count", .s "Dest", .s "A"][j]? = some x) (hv : [some (.obj 1 [.bytes (oct i), .bool false]), some (rf P), prev.map rf, next.map rf, (kidO d (hv i k o kk) kas).map (·.1), (kidO d (hv i k o kk) kas).map (·.2.1), (kidO d (hv i k o kk) kas).map (·.2.2), destO (hv i k o kk), none][j]? = some v) : dGet es x = v := by
  have := congrArg (·[j]?) g
  rw [show _ = some v from hv, show (List.map _ _)[j]? = _ from List.getElem?_map, hx] at this
  exact Option.some.inj this
 have kc := kid_count (d := d) (i := i) (k := k) (o := o) hl
 refine m gK (gt _ _ 0 rfl rfl) (by rw [gt _ _ 1 rfl rfl]; rfl) (by rw [gt _ _ 2 rfl rfl]) (by rw [gt _ _ 3 rfl rfl]) (by rw [gt _ _ 4 rfl rfl, kid_first]) (by rw [gt _ _ 5 rfl rfl, kid_last]) (fun n t r j st Q hj hQ => ?_) fun n t r j st Q hj hQ => ?_
 ·rw [← dest_val (i := i) (o := o) (ks := kk) hk] at hQ
  exact target_ok hj gK (gt _ _ 7 rfl rfl) (gt _ _ 8 rfl rfl) (by rw [dest_val hk]; exact NoRf.targ k hk) hQ
 ·rw [← kc.2] at hQ
  exact count_ok hj (gK _) (gt _ _ 6 rfl rfl) kc.1 hQ
theorem ky_snoc2 {es : Es1} {k : DK} {v : V} : ky (es ++ [(k, v)]) = ky es ++ [k] := List.map_append
noncomputable def SN (sd : Nat) (U : Int → Prop) (m : Nat) (s : St) : Prop := ∀ C : Prop, (∀ seen, s.f sd = .dict seen → (∀ e ∈ seen, e.1.kind = 2) → seen.length ≤ m → (∀ k ∈ ky seen, ∃ x, k = .p x 0 ∧ U x) → C) → C
section
variable {sd m m' : Nat} {U U' : Int → Prop} {s s' : St} {a : Int} {ns rn kn : List Int}
theorem SN.sub (h : SN sd U m s) (hU : ∀ x, U x → U' x) (hm : m ≤ m') : SN sd U' m' s := fun C k => h _ fun seen e1 e2 e3 e4 => k seen e1 e2 (Nat.le_trans e3 hm) fun y hy => let ⟨x, e, u⟩ := e4 y hy; ⟨x, e, hU x u⟩
theorem SN.kept (h : SN sd U m s) (e : s'.f sd = s.f sd) : SN sd U m s' := fun C k => h _ fun seen e1 => k seen (e.trans e1)
theorem SN.use {C : Prop} (h : SN sd U m s) (ha : ¬ U a) (k : ∀ seen, s.f sd = .dict seen → sameKind (.p a 0) seen = true → .p a 0 ∉ ky seen → seen.length ≤ m → (∀ s', s'.f sd = .dict (seen ++ [(.p a 0, .bool true)]) → SN sd (addS U [a]) (m + 1) s') → C) : C := h _ fun seen e1 e2 e3 e4 =>
 k seen e1 (kind_of e2) (fun hm => by obtain ⟨x, e, u⟩ := e4 _ hm; exact ha ((DK.p.inj e).1 ▸ u)) e3 fun s' f C k => k _ f (fun e he => (List.mem_append.mp he).elim (e2 e) fun h => by rw [List.mem_singleton.mp h]; rfl) (by rw [lApp]; exact Nat.add_le_add_right e3 1) fun y hy => by
  rw [ky_snoc2] at hy
  exact (List.mem_append.mp hy).elim (fun h => let ⟨x, e, u⟩ := e4 y h; ⟨x, e, .inl u⟩) fun h => ⟨a, List.mem_singleton.mp h, .inr (List.mem_singleton.mpr rfl)⟩
noncomputable def NI (sd : Nat) (U : Int → Prop) (m : Nat) (ns rn : List Int) (s : St) : Prop := ∀ C : Prop, (∀ U' m', SN sd U' m' s → rn.Nodup → (∀ x ∈ rn, ¬ U' x) → m' + rn.length ≤ m + ns.length → (∀ x, addS U' rn x → addS U ns x) → C) → C
theorem NI.start (h : SN sd U m s) (hn : ns.Nodup) (hf : ∀ x ∈ ns, ¬ U x) : NI sd U m ns ns s := fun C k => k U m h hn hf (Nat.le_refl _) fun x hx => hx
theorem NI.done (h : NI sd U m ns [] s) : SN sd (addS U ns) (m + ns.length) s := h _ fun U' m' h _ _ hm hU => h.sub (fun x hx => hU x (.inl hx)) hm
theorem NI.kept (h : NI sd U m ns rn s) (e : s'.f sd = s.f sd) : NI sd U m ns rn s' := fun C k => h _ fun U' m' h => k U' m' (h.kept e)
theorem ni_1 {a b c d : Nat} (h : a + (b + c + 1) ≤ d) : a + 1 + b ≤ d ∧ a + 1 + b + c ≤ d := by omega
theorem ni_0 {a b d : Nat} (h : a + (b + 1) ≤ d) : a ≤ d := by omega
theorem NI.step {C : Prop} (h : NI sd U m ns (a :: (kn ++ rn)) s) (k : ∀ seen U1 m1, s.f sd = .dict seen → sameKind (.p a 0) seen = true → .p a 0 ∉ ky seen → seen.length ≤ m + ns.length → (∀ s', s'.f sd = .dict (seen ++ [(.p a 0, .bool true)]) → SN sd U1 m1 s') → kn.Nodup → (∀ x ∈ kn, ¬ U1 x) → m1 + kn.length ≤ m + ns.length →
  (∀ s', SN sd (addS U1 kn) (m1 + kn.length) s' → NI sd U m ns rn s') → C) : C := h _ fun U' m' hS nd nw lz sub => by
 have n1 := List.nodup_cons.mp nd
 have n2 := List.nodup_append.mp n1.2
 rw [List.length_cons, lApp] at lz
 have l1 := ni_1 lz
 refine hS.use (nw a (List.mem_cons_self ..)) fun seen e1 e2 e3 e4 e5 => k seen _ _ e1 e2 e3 (Nat.le_trans e4 (ni_0 lz)) e5 n2.1 (fun x hx hU => ?_) l1.1 fun s' hS' C k => k _ _ hS' n2.2.1 (fun x hx hU => ?_) l1.2 fun x hx => sub x ?_
 ·exact hU.elim (nw x (List.mem_cons_of_mem _ (List.mem_append_left _ hx))) fun h => n1.1 (List.mem_singleton.mp h ▸ List.mem_append_left _ hx)
 ·exact hU.elim (fun hU => hU.elim (nw x (List.mem_cons_of_mem _ (List.mem_append_right _ hx))) fun h => n1.1 (List.mem_singleton.mp h ▸ List.mem_append_right _ hx)) fun h => n2.2.2 x h x hx rfl
 ·exact hx.elim (fun hx => hx.elim (fun hx => hx.elim .inl fun h => .inr (List.mem_singleton.mp h ▸ List.mem_cons_self ..)) fun h => .inr (List.mem_cons_of_mem _ (List.mem_append_left _ h))) fun h => .inr (List.mem_cons_of_mem _ (List.mem_append_right _ h))
end
noncomputable def HFAt (n d t r : Nat) (s0 : St) (tab : Es1) : Prop := ∀ (hs : List V) (P : Int) (as ns : List Int) (sd : Nat) (U : Int → Prop) (m : Nat) (st : St) (Q : V → St → Prop), HeadsOk d hs → Row (Cell 0 t s0 tab) d hs P as ns → Ext s0 st → s0.n ≤ sd → sd < st.n → SN sd U m st → ns.Nodup →
 (∀ x ∈ ns, ¬ U x) → m + ns.length ≤ 60 → (∀ st', Ext s0 st' → Kept sd st st' → SN sd (addS U ns) (m + ns.length) st' → Q (.lst hs) st') → Runs (callFn T n true 494 [sh t r, firstV as, .ref sd, .int (4 - d)]) st Q
theorem hf0 (n t r : Nat) (s0 : St) (tab : Es1) : HFAt (n + 2) 0 t r s0 tab := by
 rintro _ P _ _ sd U m st Q rfl ⟨rfl, rfl⟩ hx h1 h2 hS _ _ _ hQ
 refine c_open (fn := f494) rfl rfl rfl ?_
 refine s_cons (s_asg (r_lst (r_nil ⟨Nat.zero_le _, ?_⟩)))
 refine s_cons (s_asg (r_loc rfl ?_))
 refine s_cons (s_whl (whl_inv (fun k loc s => loc 43 = some (sh t r) ∧ loc 13 = some .nil ∧ loc 19 = some (.ref st.n) ∧ s = st.push (.list [])) (fun k loc s R h _ => ?_) fuelW 0 _ _ (by decide) ⟨rfl, rfl, rfl, rfl⟩))
 rw [h.2.2.2]
 refine r_cmpB (r_callO (r_loc h.1 ⟨_, _, rfl, rfl, r_cons (r_loc h.2.1 (r_nil (fetch_val (n := n) (v := .nil) ⟨rfl, rfl⟩ ?_)))⟩))
 refine r_lit (Runs.onP rfl (Runs.pure ⟨fun h => (by cases h), fun _ => s_cons (s_ret (r_loc h.2.2.1 (Runs.pure (r_frzL push_f (hQ _ ?_ ?_ ?_)))))⟩))
 ·exact hx.but (i := st.n) (⟨Nat.le_succ _, fun j hj _ => (set_ne (Nat.ne_of_lt hj)).trans (push_ne hj)⟩ : Kept st.n st _) hx.1
 ·exact ((Kept.refl sd st).push).new (Nat.le_refl _)
 ·exact (hS.kept ((set_ne (Nat.ne_of_lt h2)).trans (push_ne h2))).sub (fun x h => .inl h) (Nat.le_refl _)
noncomputable def HL (t r d sd : Nat) (P : Int) (s0 : St) (tab : Es1) (p : Nat) (st : St) (U : Int → Prop) (m : Nat) (ns : List Int) (hs : List V) (k : Nat) (loc : Loc) (s : St) : Prop := ∀ C : Prop, (∀ hd hr ar prev rn, loc 43 = some (sh t r) → loc 48 = some (.ref sd) → loc 40 = some (.int (4 - ((d + 1 : Nat) : Int))) → loc 19 = some (.ref p) →
 hs = hd ++ hr → k = hr.length → loc 13 = some (firstV ar) → RowR (Cell 0 t s0 tab) (Row (Cell 0 t s0 tab) d) d P hr ar prev rn → s.f p = .list hd → p < s.n → Ext s0 s → Kept sd st s → NI sd U m ns rn s → C) → C
theorem ap_len {hs hd hr : List V} (e : hs = hd ++ hr) (h : hs.length ≤ 3) : hd.length ≤ 3 := by
 rw [e, lApp] at h; exact Nat.le_trans (Nat.le_add_right ..) h
theorem deep_t (d : Nat) : nb true (decide ((4 : Int) - ((d + 1 : Nat) : Int) ≤ 20)) = false := deep_ok (d + 1)
theorem targ_ref {k y : Nat} (hk : k < 4) : targs.getD k .nil ≠ .ref y := fun e => by have := targ_clo k hk; rw [e] at this; cases this
theorem hf_step {n d t r : Nat} {s0 : St} {tab : Es1} (hR : Rd t s0 tab) (IH : HFAt (n + 20) d t r s0 tab) (hd : d + 1 ≤ 3) : HFAt (n + 21) (d + 1) t r s0 tab := by
 intro hs P as ns sd U m st Q hok hr hx h1 h2 hS hn hnew hz hQ
 have hhl : hs.length ≤ 3 := heads_len hok hd
 refine c_open (fn := f494) rfl rfl rfl ?_
 refine s_cons (s_asg (r_lst (r_nil ⟨Nat.zero_le _, ?_⟩)))
 refine s_cons (s_asg (r_loc rfl ?_))
 have hsn : s0.n ≤ st.n := hx.1
 refine s_cons (s_whl (whl_inv (HL t r d sd P s0 tab st.n st U m ns hs) (fun k loc s R h hK => h _ fun hl hr ar prev rn l43 l48 l40 l19 e1 e2 l13 hrow f19 n19 xs ks N => ?_) fuelW hs.length _ _ (fuel_of hhl rfl)
  (fun C m => m [] hs as none ns rfl rfl rfl rfl rfl rfl rfl hr push_f (lts _) (hx.push _) (Kept.refl sd st).push (NI.start (hS.kept (push_ne h2)) hn hnew))))
 have hsp : st.n ≠ sd := Nat.ne_of_gt h2
 generalize hp : st.n = p at f19 n19 hsn l19 hK hsp
 refine row_cases hrow (fun er ea en => ?_) fun h hr' a ar' kas kn rn' er ea en hG hkid hrest => ?_
 ·rw [ea] at l13
  rw [en] at N
  rw [er, List.append_nil] at e1
  refine r_cmpB (r_callO (r_loc l43 ⟨_, _, rfl, rfl, r_cons (r_loc l13 (r_nil (fetch_val (n := n + 19) (v := .nil) ⟨rfl, rfl⟩ ?_)))⟩))
  refine r_lit (Runs.onP rfl (Runs.pure ⟨fun h => (by cases h), fun _ => s_cons (s_ret (r_loc l19 (Runs.pure (r_frzL f19 ?_))))⟩))
  rw [← e1]
  exact hQ _ (xs.but Kept.set hsn) (ks.new (Nat.le_of_eq hp)) (N.done.kept (set_ne hsp.symm))
 ·rw [er] at e1 e2
  rw [ea] at l13
  rw [en] at N
  have hdl : hl.length ≤ 4000 := leK (ap_len e1 hhl) rfl
  have hmem : h ∈ hs := by rw [e1]; exact List.mem_append_right _ (List.mem_cons_self ..)
  obtain ⟨i1, k1, o, kk, eh, hi1, hk4, hokk, hkk⟩ := hok.2 h hmem
  rw [eh] at e1 hG hkid
  refine hR.cell hG fun j hj hat => ?_
  refine ig (d := d) (o := o) (P := P) (prev := prev) (next := ar'.head?) hi1 hk4 (row_len d hkk hkid) _ fun gK gT _ _ gN gF _ gD gC => ?_
  have hat' := hat s xs
  have hto := kid_o hkk hokk
  generalize itemE d (hv i1 k1 o kk) P prev ar'.head? kas = es at hat hat' gK gT gN gF gD gC
  refine N.step fun seen U1 m1 fsd hsk ha lz N1 hnk hfk lz1 N2 => ?_
  refine r_cmpB (r_callO (r_loc l43 ⟨_, _, rfl, rfl, r_cons (r_loc l13 (r_nil (fetch_at (n := n + 19) hat' ?_)))⟩))
  refine r_lit (Runs.onP rfl (Runs.pure ⟨fun _ => ?_, fun h => by cases h⟩))
  refine s_cons (s_ife (r_cmpB (r_loc l40 (r_lit (c_le ?_)))))
  rw [deep_t]
  refine Runs.pure ?_
  refine s_cons (s_asg (r_callO (r_loc l43 ⟨_, _, rfl, rfl, r_cons (r_loc l13 (r_nil (fetch_at (n := n + 19) hat' ?_)))⟩)))
  refine s_cons (s_ife (r_notB (r_isinB (r_loc rfl (isin_d (by rw [hat'.2.2.2]; rfl) rfl (Runs.pure ?_))))))
  refine s_cons (s_ife (r_isinB (r_loc l13 (Runs.of rfl ?_))))
  refine s_cons (s_ife (r_cmpB (r_tup (r_cons (r_attr (r_loc l13 (Runs.of rfl (r_cons (r_attr (r_loc l13 (Runs.of rfl (r_nil ⟨(lbr rfl), r_loc l48 (c_inD fsd rfl hsk ?_)⟩))))))))))))
  rw [dGet_out ha]
  refine Runs.pure ?_
  refine s_cons (s_asgIdx (r_lit (r_loc l48 (r_tup (r_cons (r_attr (r_loc l13 (Runs.of rfl (r_cons (r_attr (r_loc l13 (Runs.of rfl (r_nil ⟨(lbr rfl), x_dct fsd rfl hsk (leK (Nat.le_trans lz hz) rfl) ?_⟩)))))))))))))
  rw [dSet_new ha]
  refine Runs.pure ?_
  have hjs : j ≠ sd := ne_low hj h1
  have x2 : Ext s0 (s.set sd (.dict (seen ++ [(.p a 0, .bool true)]))) := xs.but Kept.set h1
  have k2 : Kept sd s (s.set sd (.dict (seen ++ [(.p a 0, .bool true)]))) := Kept.set
  have N1 := N1 (s.set sd (.dict (seen ++ [(.p a 0, .bool true)]))) set_self
  generalize s.set sd (.dict (seen ++ [(.p a 0, .bool true)])) = s2 at x2 k2 N1 ⊢
  have hj2 := (hat s2 x2).2.2.2
  have n192 : p < s2.n := ltl n19 k2.1
  refine s_cons (s_asg (r_callF (r_cons (r_loc l43 (r_cons (r_callB (r_loc rfl (y_get1 hj2 (r_cons (r_lit (r_nil (m_get1 hj2 rfl (gK _) (r_cons (r_loc l48 (r_cons (r_bin (r_loc l40 (r_lit (o_add (r_nil ?_))))))))))))))))))))
  rw [show (dGet es (.s "First")).getD .nil = firstV kas from gF, deep_up]
  refine IH kk a kas kn sd U1 m1 s2 _ hkk hkid x2 h1 (ltl h2 (Nat.le_trans ks.1 k2.1)) N1 hnk hfk (Nat.le_trans lz1 hz) fun s3 x3 k3 N3 => ?_
  have hj3 := (hat s3 x3).2.2.2
  have n193 : p < s3.n := ltl n192 k3.1
  refine s_cons (s_ex (r_callB (r_loc l19 (y_append ((k3.2 p n192 hsp).trans ((k2.2 p n19 hsp).trans f19)) (r_cons (r_new (r_cons (r_callF (r_cons (r_loc l43 (r_cons (r_loc rfl (r_nil (title_ok (n := n + 11) hj3 (gK _) gT hi1 ?_))))))))))))))
  refine r_cons (r_callF (r_cons (r_loc l43 (r_cons (r_loc rfl (r_nil (gD (n + 17) _ _ _ _ _ hj3 ?_)))))))
  refine r_cons (r_cmp (r_callF (r_cons (r_loc l43 (r_cons (r_loc rfl (r_nil (gC (n + 17) _ _ _ _ _ hj3 ?_))))))))
  refine r_lit (c_le (r_cons (r_loc rfl (r_nil ?_))))
  refine new_head (.inl ⟨targ_clo k1 hk4, rfl⟩) rfl (fun j e => by cases e) (leK (heads_len hkk (Nat.le_of_succ_le hd)) rfl) fun s7 b7 => r_nil ?_
  rw [hto]
  have x7 : Ext s3 s7 := ⟨b7.1, fun y hy => b7.2 y hy (targ_ref hk4)⟩
  have f7 := (x7.2 p n193).trans ((k3.2 p n192 hsp).trans ((k2.2 p n19 hsp).trans f19))
  refine m_append f7 hdl ?_
  have hx7 : Ext s0 (s7.set p (.list (hl ++ [hv i1 k1 o kk]))) := (x3.trans x7).but Kept.set hsn
  have hj7 := (hat _ hx7).2.2.2
  refine s_cons (s_asg (r_callB (r_loc rfl (y_get1 hj7 (r_cons (r_lit (r_nil (m_get1 hj7 rfl (gK _) ?_))))))))
  rw [show (dGet es (.s "Next")).getD .nil = firstV ar' from gN]
  have k7 : Kept sd st (s7.set p (.list (hl ++ [hv i1 k1 o kk]))) := (((ks.trans k2).trans k3).trans x7.kept).new (Nat.le_of_eq hp)
  have hsd3 : sd < s3.n := ltl h2 (Nat.le_trans ks.1 (Nat.le_trans k2.1 k3.1))
  exact Runs.pure (hK hr'.length _ _ (by rw [e2]; exact lts _) fun C m => m (hl ++ [hv i1 k1 o kk]) hr' ar' (some a) rn' l43 l48 l40 l19 (by rw [e1, List.append_assoc]; rfl) rfl rfl hrest set_self (ltl n193 x7.1) hx7 k7 ((N2 s3 N3).kept ((set_ne hsp.symm).trans (x7.2 sd hsd3))))
theorem hf3 (n t r : Nat) {s0 : St} {tab : Es1} (hR : Rd t s0 tab) : HFAt (n + 23) 3 t r s0 tab := hf_step (n := n + 2) hR (hf_step (n := n + 1) hR (hf_step (n := n) hR (hf0 (n + 18) t r s0 tab) (by decide)) (by decide)) (by decide)
noncomputable def RootAt (r : Nat) (s0 : St) (tab : Es1) (own : V) (es : Es1) : Prop := r < s0.n ∧ ∀ C : Prop, (s0.f r = .dict [] → own = .nil → es = [] → C) →
 (∀ rd p j, s0.f r = .dict [(.s "Root", .ref rd)] → rd < s0.n → s0.f rd = .dict [(.s "Outlines", rf p)] → own = rf p → dGet tab (.i p) = some (.tup [.int 0, .ref j]) → j < s0.n → s0.f j = .dict es → C) → C
theorem slotL_dict {st : St} {j : Nat} {es : Es1} (h : st.f j = .dict es) : slotL st (.ref j) = none := (NoRf.dict h).2
section
variable {n t r : Nat} {s0 s : St} {tab es : Es1} {own : V} {Q : V → St → Prop}
theorem root_ok (hA : RootAt r s0 tab own es) (hx : Ext s0 s) (hQ : ∀ s' i es1, Ext s s' → i < s'.n → s'.f i = .dict es1 → sameKind (.s "Outlines") es1 = true → optN (dGet es1 (.s "Outlines")) = own → Q (.ref i) s') : Runs (callFn T (n + 3) true 355 [sh t r]) s Q := by
 refine c_open (fn := f355) rfl rfl rfl ?_
 refine s_cons (s_asg (r_callO (r_loc rfl ⟨_, _, rfl, rfl, r_cons (Runs.of rfl (r_cons (r_lit (r_nil ?_))))⟩)))
 refine hA.2 _ (fun h1 eo ee => ?_) fun rd p j h1 h2 h3 eo h4 h5 h6 => ?_
 ·refine get_val (n := n) (v := .nil) ((hx.2 r hA.1).trans h1) rfl rfl ⟨rfl, rfl⟩ ?_
  refine s_cons (s_ret (r_ite (Runs.of rfl (r_dct (by decide) (r_nil ⟨rfl, ?_⟩)))))
  exact Runs.pure (r_ret (slotL_dict push_f) (hQ _ s.n [] ((Ext.refl s).push _) (lts _) push_f rfl eo.symm))
 ·have e3 := (hx.2 rd h2).trans h3
  refine get_val (n := n) (v := .ref rd) ((hx.2 r hA.1).trans h1) rfl (by kernel_rfl) (NoRf.dict e3) ?_
  refine s_cons (s_ret (r_ite (r_isinB (r_loc rfl (isin_d (by rw [e3]; rfl) rfl (r_loc rfl ?_))))))
  exact Runs.pure (r_ret (slotL_dict e3) (hQ s rd _ (Ext.refl s) (ltl h2 hx.1) e3 rfl (.trans (by kernel_rfl) eo.symm)))
theorem oroot_ok (hR : Rd t s0 tab) (hA : RootAt r s0 tab own es) (hx : Ext s0 s) (hQ : ∀ s' i, Ext s s' → i < s'.n → s'.f i = .dict es → (i < s0.n ∨ s.n ≤ i) → Q (.ref i) s') : Runs (callFn T (n + 4) true 501 [sh t r]) s Q := by
 refine c_open (fn := f501) rfl rfl rfl ?_
 refine s_cons (s_asg (r_callO (r_loc rfl ⟨_, _, rfl, rfl, r_cons (r_callO (r_loc rfl ⟨_, _, rfl, rfl, r_nil (root_ok (n := n) (t := t) hA hx fun s1 i es1 x1 hi f1 k1 g1 => ?_)⟩))⟩)))
 refine r_cons (r_lit (r_nil ?_))
 refine hA.2 _ (fun h1 eo ee => ?_) fun rd p j h1 h2 h3 eo h4 h5 h6 => ?_
 ·refine get_val (n := n + 1) (v := .nil) f1 k1 (g1.trans eo) ⟨rfl, rfl⟩ ?_
  refine s_cons (s_ret (r_ite (Runs.of rfl (r_dct (by decide) (r_nil ⟨rfl, ?_⟩)))))
  exact Runs.pure (r_ret (slotL_dict push_f) (hQ _ s1.n (x1.push _) (lts _) (push_f.trans (congrArg Ob.dict ee.symm)) (.inr x1.1)))
 ·have e6 := ((hx.trans x1).2 j h5).trans h6
  refine get_run (n := n + 1) f1 k1 (g1.trans eo) fun R hR' => fetch_at (n := n + 1) ⟨((hx.trans x1).2 t hR.2.2).trans hR.1, hR.2.1, h4, e6⟩ (hR' _ _ (slotL_dict e6) ?_)
  refine s_cons (s_ret (r_ite (r_isinB (r_loc rfl (isin_d (by rw [e6]; rfl) rfl (r_loc rfl ?_))))))
  exact Runs.pure (r_ret (slotL_dict e6) (hQ _ j x1 (ltl h5 (hx.trans x1).1) e6 (.inl h5)))
end
noncomputable def HG (es : Es1) (hs : List V) (as : List Int) : Prop := (∀ x, sameKind (.s x) es = true) ∧ optN (dGet es (.s "First")) = firstV as ∧ optN (dGet es (.s "Last")) = optN (as.getLast?.map rf) ∧ ∀ n t r j st Q, st.f j = .dict es → Q (.int (cnt 3 hs)) st → Runs (callFn T (n + 3) true 487 [sh t r, .ref j]) st Q
theorem HG.nil : HG [] [] [] := ⟨fun _ => rfl, rfl, rfl, fun n t r j st Q hj hQ => count_ok (o := none) hj rfl rfl (.inl rfl) hQ⟩
theorem HG.head {hs : List V} {as : List Int} (hl : as.length = hs.length) : HG (headE hs as) hs as := by
 unfold headE
 rw [kidE_O]
 have g := hd_get (kidO 3 (hv 0 0 true hs) as) (.obj 0 [.str "Outlines"])
 have kc := kid_count (d := 3) (i := 0) (k := 0) (o := true) hl
 have gK := hd_kind (kidO 3 (hv 0 0 true hs) as) (.obj 0 [.str "Outlines"])
 generalize [(DK.s "Type", V.obj 0 [.str "Outlines"])] ++ k3E (kidO 3 (hv 0 0 true hs) as) = es at g gK
 have g2 := (List.cons.inj g).2
 refine ⟨gK, (congrArg optN (List.cons.inj g).1).trans kid_first, (congrArg optN (List.cons.inj g2).1).trans kid_last, fun n t r j st Q hj hQ => ?_⟩
 rw [show cnt 3 hs = _ from kc.2.symm] at hQ
 exact count_ok hj (gK _) (List.cons.inj (List.cons.inj g2).2).1 kc.1 hQ
theorem read_ok {n t r : Nat} {s0 s : St} {tab es : Es1} {own : V} {hs : List V} {P : Int} {as ns : List Int} {Q : V → St → Prop} (hR : Rd t s0 tab) (hA : RootAt r s0 tab own es) (hG : HG es hs as) (hok : HeadsOk 3 hs) (hrow : Row (Cell 0 t s0 tab) 3 hs P as ns) (hn : ns.Nodup) (hz : ns.length ≤ 60) (hx : Ext s0 s)
  (hQ : ∀ s', Ext s s' → Q (.lst hs) s') : Runs (callFn T (n + 24) true 508 [sh t r]) s Q := by
 refine c_open (fn := f508) rfl rfl rfl ?_
 refine s_cons (s_ret (r_callF (r_cons (r_loc rfl (r_cons (r_callB (r_callF (r_cons (r_loc rfl (r_nil (oroot_ok (n := n + 19) hR hA hx fun s1 i x1 hi f1 _ => ?_)))))))))))
 refine y_get1 f1 (r_cons (r_lit (r_nil (m_get1 f1 rfl (hG.1 _) ?_))))
 rw [show (dGet es (.s "First")).getD .nil = firstV as from hG.2.1]
 have hx1 := hx.trans x1
 refine r_cons (r_dct (by decide) (r_nil ⟨rfl, r_cons (r_lit (r_nil ?_))⟩))
 refine hf3 n t r hR hs P as ns s1.n (fun _ => False) 0 _ _ hok hrow (hx1.push _) hx1.1 (lts _) (fun C k => k [] push_f (fun e he => absurd he nmn) (Nat.le_refl 0) fun y hy => absurd hy nmn) hn (fun x _ h => h) (by rw [Nat.zero_add]; exact hz) fun s2 _ k2 _ => ?_
 exact Runs.pure (r_ret rfl (hQ s2 ((x1.push _).but k2 x1.1)))
theorem c_sameT {st : St} {n : Bool} {xs ys : List V} {B : Bool → St → Prop} (h : sames xs ys = true) (hQ : B (nb n true) st) : Runs (cmpV .sameT n (.tup xs) (.tup ys)) st B :=
 (Runs.onO rfl (Runs.onO rfl (Runs.onP h (Runs.pure hQ))) : Runs (onO (V.tup? (.tup xs)) fun x => onO (V.tup? (.tup ys)) fun y => onP (sames x y = true) (M.pure (nb n true))) st B)
theorem c_sameL {st : St} {n : Bool} {a b : V} {xs ys : List V} {B : Bool → St → Prop} (h1 : listOf st a = some xs) (h2 : listOf st b = some ys) (h : sames xs ys = true) (hQ : B (nb n true) st) : Runs (cmpV .sameL n a b) st B :=
 (r_onL h1 (r_onL h2 (Runs.onP h (Runs.pure hQ))) : Runs (onL a fun x => onL b fun y => onP (sames x y = true) (M.pure (nb n true))) st B)
theorem sames3 {a b w : V} (ha : dp 12 a = true) (hb : dp 12 b = true) (hw : dp 12 w = true) : sames [a, b, w] [a, b, w] = true := sames_refl fun x hx => by
 rcases List.mem_cons.mp hx with e | hx
 ·rw [e]; exact ha
 ·rcases List.mem_cons.mp hx with e | hx
  ·rw [e]; exact hb
  ·rw [List.mem_singleton.mp hx]; exact hw
theorem alike_ok : ∀ (d n : Nat) (st : St) (hs : List V) (Q : V → St → Prop), HeadsOk d hs → d ≤ 3 → Q (.bool true) st → Runs (callFn T (n + d + 7) true 612 [.lst hs, .lst hs]) st Q := by
 intro d
 induction d with
 | zero => intro n st hs Q h _ hQ; rw [show hs = [] from h]; exact ⟨_, _, by kernel_rfl, hQ⟩
 | succ d ih =>
  intro n st hs Q hok hd hQ
  have hhl := heads_len hok hd
  have h4 := leK hhl rfl
  refine c_clo (n := n + d + 7) (fn := f612) rfl (by show (clos hs && (clos hs && true)) = true; rw [heads_clo _ hok]; rfl) rfl ?_
  refine s_cons (s_ife (r_cmpB (r_bi (r_cons (r_loc rfl (r_nil (b_len (xs := hs) rfl h4 (r_bi (r_cons (r_loc rfl (r_nil (b_len (xs := hs) rfl h4 (c_eqI ?_)))))))))))))
  rw [ndT (p := ((hs.length : Nat) : Int) = hs.length) rfl]
  refine Runs.pure ?_
  refine s_cons (s_for (r_bi (r_cons (r_bi (r_cons (r_loc rfl (r_nil (b_len (xs := hs) rfl h4 (r_nil (b_range (l_rng h4 ?_)))))))))))
  refine for_rng (c := hs.length) (fun i loc s => loc 58 = some (.lst hs) ∧ loc 63 = some (.lst hs)) (fun i loc s R hi h hK => ?_) (fun loc s h => ?_) hs.length fuelW 0 _ _ (Nat.zero_add _) (fuel_of hhl rfl) ⟨rfl, rfl⟩
  ·refine (drop_at hi).elim fun u hu => ?_
   obtain ⟨i1, k, o, kk, eu, hi1, hk4, hokk, hkk⟩ := hok.2 u (List.mem_of_getElem? hu.1)
   have hu := hu.1
   rw [eu] at hu
   refine (told_targ (n + d + 1) s k hk4).elim fun w hw => ?_
   refine s_cons (s_asg2 (r_tup (r_cons (r_idx (r_loc h.1 (r_loc rfl (i_lst rfl (idxAt_nat hi h4) hu (r_cons (r_idx (r_loc h.2 (r_loc rfl (i_lst rfl (idxAt_nat hi h4) hu (r_nil ⟨(lbr rfl), _, _, rfl, ?_⟩)))))))))))))
   refine s_cons (s_ife (r_cmpB (r_tup (r_cons (r_attr (r_loc rfl (Runs.of rfl (r_cons (r_attr (r_loc rfl (Runs.of rfl (r_cons (r_callF (r_cons (r_attr (r_loc rfl (Runs.of rfl (r_nil (Runs.of hw.1 (r_nil ⟨(lbr rfl), ?_⟩))))))))))))))))))))
   refine r_tup (r_cons (r_attr (r_loc rfl (Runs.of rfl (r_cons (r_attr (r_loc rfl (Runs.of rfl (r_cons (r_callF (r_cons (r_attr (r_loc rfl (Runs.of rfl (r_nil (Runs.of hw.1 (r_nil ⟨(lbr rfl), c_sameT (sames3 rfl rfl hw.2.1) ?_⟩)))))))))))))))))
   refine Runs.pure (s_cons (s_ife (r_notB (r_tr (r_callF (r_cons (r_attr (r_loc rfl (Runs.of rfl (r_cons (r_attr (r_loc rfl (Runs.of rfl (r_nil (ih n s kk _ hkk (Nat.le_of_succ_le hd) ?_))))))))))) rfl))))
   exact ⟨true, rfl, Runs.pure (Runs.pure (hK _ _ ⟨h.1, h.2⟩))⟩
  ·exact s_cons (s_ret (r_lit (Runs.pure (r_ret rfl ⟨rfl, hQ⟩))))
theorem alike4 {n : Nat} {st : St} {hs : List V} {Q : V → St → Prop} (h : HeadsOk 3 hs) (hQ : Q (.bool true) st) : Runs (callFn T (n + 10) true 612 [.lst hs, .lst hs]) st Q := alike_ok 3 n st hs Q h (Nat.le_refl _) hQ
section
variable {call : Addr → List V → M V} {q : Bool} {loc up : Loc} {st : St} {a b c : E} {B : Bool → St → Prop}
theorem r_orB (h : RB1 call q loc up a st fun t st' => (t = true → B true st') ∧ (t = false → RB1 call q loc up b st' B)) : RB1 call q loc up (.or (.cons a (.cons b .nil))) st B :=
 Runs.bind (h.mono fun t s h => by
  cases t with
  | true => exact Runs.pure (h.1 rfl)
  | false => exact Runs.bind ((h.2 rfl).mono fun u s2 hb => by cases u <;> exact Runs.pure hb))
end
theorem place_nil (n : Nat) (st : St) : callFn T (n + 1) true 515 [.nil, .nil] st = some (.ok (.bool true), st) := by kernel_rfl
theorem sames2 {a b : V} (ha : dp 12 a = true) (hb : dp 12 b = true) : sames [a, b] [a, b] = true := sames_refl fun x hx => by
 rcases List.mem_cons.mp hx with e | hx
 ·rw [e]; exact ha
 ·rw [List.mem_singleton.mp hx]; exact hb
theorem place_ok {n : Nat} {st : St} {o : Option Int} {Q : V → St → Prop} (hQ : Q (.bool true) st) : Runs (callFn T (n + 1) true 515 [optN (o.map rf), optN (o.map rf)]) st Q := by
 cases o with
 | none => exact Runs.of (place_nil n st) hQ
 | some a =>
  refine c_clo (fn := f515) rfl rfl rfl ?_
  refine s_cons (s_ife (Runs.of rfl (Runs.pure ?_)))
  refine s_cons (s_ret (r_and (Runs.of rfl ⟨true, rfl, fun _ => ?_, fun h => by cases h⟩)))
  refine r_cmp (Runs.of rfl (Runs.of rfl (c_sameT (xs := [.int a, .int 0]) (ys := [.int a, .int 0]) (sames2 rfl rfl) ?_)))
  exact Runs.pure (r_ret rfl ⟨rfl, hQ⟩)
noncomputable def lk (t r fl se : Nat) : V := .obj 5 [sh t r, .ref fl, .ref se]
noncomputable def PlOk (m : Nat) (s : Str) : Prop := s.cps.toList.count 46 ≤ m ∧ s.length ≤ 10 + 10 * m
theorem m_count {s : Str} {st : St} {Q : V → St → Prop} (hQ : Q (.int (s.cps.toList.count 46)) st) : Runs (methV (.str s) .count [.str "."]) st Q :=
 (Runs.onO rfl (Runs.onO rfl (Runs.onO rfl (Runs.onO (show one (("." : Str).cps.toList) = some 46 by kernel_rfl) (Runs.pure hQ)))) :
  Runs (onO (one [V.str "."]) fun v => onO v.str? fun t => onO (V.str s).str? fun s => onO (one t.cps.toList) fun c => M.pure (.int (s.cps.toList.count c))) st Q)
theorem o_addS {x y : Str} {st : St} {Q : V → St → Prop} (hz : x.length + y.length ≤ 4000) (hQ : Q (.str (x ++ y)) st) : Runs (opV .addS (.str x) (.str y)) st Q := Runs.onO rfl (Runs.onO rfl (Runs.onP (Nat.le_trans hz (by decide)) (Runs.pure hQ)))
theorem nat_dot : ∀ i, i < 3 → (natStr ((i : Nat) : Int)).cps.toList.count 46 = 0 ∧ (natStr ((i : Nat) : Int)).length = 1
 | 0, _ => ⟨by kernel_rfl, by kernel_rfl⟩
 | 1, _ => ⟨by kernel_rfl, by kernel_rfl⟩
 | 2, _ => ⟨by kernel_rfl, by kernel_rfl⟩
 | i + 3, h => absurd h (by omega)
theorem str_len (a b : Str) : (a ++ b).length = a.length + b.length := Array.size_append ..
theorem str_cnt (a b : Str) : (a ++ b).cps.toList.count 46 = a.cps.toList.count 46 + b.cps.toList.count 46 := by
 show (a.cps ++ b.cps).toList.count 46 = _
 rw [Array.toList_append, List.count_append]
theorem b_str {i : Int} {q : Bool} {st : St} {Q : V → St → Prop} (h : i.natAbs < 4000) (hQ : Q (.str (natStr i)) st) : Runs (biV q .str [.int i]) st Q := Runs.onO rfl (Runs.onO rfl (Runs.onP (Nat.lt_trans h (by decide)) (Runs.pure hQ)))
theorem dots_b {a m : Nat} (h : a ≤ m) (hm : m < 20) : nb true (decide ((a : Int) < 20)) = false := ndT (by omega)
section
variable {n t r fl se : Nat} {s : St} {tab : Es1} {Q : V → St → Prop}
theorem isitem_ok {a : Int} {j m : Nat} {es seen : Es1} {p : Str} (hat : At t s tab a j es) (hse : s.f se = .dict seen) (hsk : sameKind (.p a 0) seen = true) (hz : seen.length ≤ 4000) (hnew : .p a 0 ∉ ky seen) (hp : PlOk m p) (hm : m < 20) (hQ : Q (.bool true) (s.set se (.dict (seen ++ [(.p a 0, .bool true)])))) :
  Runs (callFn T (n + 2) true 543 [lk t r fl se, rf a, .str p]) s Q := by
 refine c_open (fn := f543) rfl rfl rfl ?_
 refine s_cons (s_ife (r_cmpB (r_callB (r_loc rfl (Runs.onO rfl (Runs.pure (r_cons (r_lit (r_nil (m_count (r_lit (c_lt ?_))))))))))))
 rw [dots_b hp.1 hm]
 refine Runs.pure ?_
 refine s_cons (s_ife (r_orB (r_notB (r_isinB (r_loc rfl (Runs.of rfl ⟨fun h => (by cases h), fun _ => ?_⟩))))))
 refine r_notB (r_isinB (r_callO (r_attr (r_loc rfl (Runs.of rfl ⟨_, _, rfl, rfl, r_cons (r_loc rfl (r_nil (fetch_at (n := n) hat ?_)))⟩)))))
 refine isin_d (by rw [hat.2.2.2]; rfl) rfl (Runs.pure ?_)
 refine s_cons (s_ife (r_cmpB (r_tup (r_cons (r_attr (r_loc rfl (Runs.of rfl (r_cons (r_attr (r_loc rfl (Runs.of rfl (r_nil ⟨(lbr rfl), r_attr (r_loc rfl (Runs.of rfl (c_inD hse rfl hsk ?_)))⟩))))))))))))
 rw [dGet_out hnew]
 refine Runs.pure ?_
 refine s_cons (s_asgIdx (r_lit (r_attr (r_loc rfl (Runs.of rfl (r_tup (r_cons (r_attr (r_loc rfl (Runs.of rfl (r_cons (r_attr (r_loc rfl (Runs.of rfl (r_nil ⟨(lbr rfl), x_dct hse rfl hsk hz ?_⟩)))))))))))))))
 rw [dSet_new hnew]
 exact s_cons (s_ret (r_lit (Runs.pure (r_ret rfl hQ))))
end
noncomputable def RowAt (n d m t r fl se : Nat) (s0 : St) (tab : Es1) : Prop := ∀ (hs : List V) (P : Int) (as ns : List Int) (own : V) (i : Nat) (es : Es1) (pl : Str) (U : Int → Prop) (c : Nat) (st : St) (Q : V → St → Prop), HeadsOk d hs → Row (Cell 0 t s0 tab) d hs P as ns → (hs ≠ [] → own = rf P) → Ext s0 st → st.f i = .dict es → i < st.n → i ≠ se → (∀ x, sameKind (.s x) es = true) →
 optN (dGet es (.s "First")) = firstV as → optN (dGet es (.s "Last")) = optN (as.getLast?.map rf) → PlOk m pl → SN se U c st → s0.n ≤ se → se < st.n → ns.Nodup → (∀ x ∈ ns, ¬ U x) → c + ns.length ≤ 60 →
 (∀ st', Ext s0 st' → Kept se st st' → SN se (addS U ns) (c + ns.length) st' → Q (.int (cnt d hs)) st') → Runs (callFn T n true 550 [lk t r fl se, .ref i, own, .str pl]) st Q
theorem ck_t {r : Nat} {c : Int} (h : (r : Int) ≤ c) : ((c.natAbs : Nat) : Int) = c := by omega
theorem ck_f {r : Nat} {c : Int} (h : (r : Int) ≤ c) : (((-c).natAbs : Nat) : Int) = c := by omega
theorem ck_n {r : Nat} {c : Int} (h : (r : Int) ≤ c) : -c ≤ 0 := by omega
theorem cntK_abs {d : Nat} {o : Bool} {kk : List V} (hok : HeadsOk d kk) : (((cntK d o kk).natAbs : Nat) : Int) = cnt d kk := by
 cases o
 ·exact ck_f (cnt_ge d hok)
 ·exact ck_t (cnt_ge d hok)
theorem cntK_pos {d : Nat} {o : Bool} {kk : List V} (hok : HeadsOk d kk) (ho : o = true → kk ≠ []) : nb true (decide (cntK d o kk ≤ 0)) = o := by
 have h := kid_o hok ho
 cases o with
 | false => exact ndT (p := cntK d false kk ≤ 0) (ck_n (cnt_ge d hok))
 | true => exact (andS h).1
theorem item_ok {n d m t r fl se : Nat} {s0 st : St} {tab : Es1} (hR : Rd t s0 tab) (IH : RowAt (n + 20) d m t r fl se s0 tab) {i1 k : Nat} {o : Bool} {kk : List V} {a P : Int} {prev next : Option Int} {kas kn : List Int} {pl : Str} {U : Int → Prop} {c : Nat} {Q : V → St → Prop} (hi1 : i1 < 10) (hk4 : k < 4) (hokk : o = true → kk ≠ []) (hkk : HeadsOk d kk)
  (hG : Cell 0 t s0 tab (a, itemE d (hv i1 k o kk) P prev next kas)) (hkid : Row (Cell 0 t s0 tab) d kk a kas kn) (hx : Ext s0 st) (hp : PlOk m pl) (hS : SN se U c st) (h1 : s0.n ≤ se) (h2 : se < st.n) (hn : kn.Nodup) (hnew : ∀ x ∈ kn, ¬ U x) (hz : c + kn.length ≤ 60)
  (hQ : ∀ st', Ext s0 st' → Kept se st st' → SN se (addS U kn) (c + kn.length) st' → Q (.int (1 + if o then cnt d kk else 0)) st') : Runs (callFn T (n + 21) true 557 [lk t r fl se, rf a, rf P, optN (prev.map rf), .str pl]) st Q := by
 refine hR.cell hG fun j hj hat => ?_
 refine ig (d := d) (o := o) (P := P) (prev := prev) (next := next) hi1 hk4 (row_len d hkk hkid) _ fun gK gT gP gPv _ gF gL _ gC => ?_
 have hat' := hat st hx
 have hab := cntK_abs (o := o) hkk
 have hps := cntK_pos hkk hokk
 generalize itemE d (hv i1 k o kk) P prev next kas = es at hat hat' gK gT gP gPv gF gL gC
 have hjd := hat'.2.2.2
 refine c_open (fn := f557) rfl rfl rfl ?_
 refine s_cons (s_asg (r_callO (r_attr (r_loc rfl (Runs.of rfl ⟨_, _, rfl, rfl, r_cons (r_loc rfl (r_nil (fetch_at (n := n + 19) hat' ?_)))⟩)))))
 refine s_cons (s_ife (r_notB (r_isinB (r_callO (r_attr (r_loc rfl (Runs.of rfl ⟨_, _, rfl, rfl, r_cons (r_loc rfl (r_cons (r_lit (r_nil (get_val (n := n + 18) (v := .obj 1 [.bytes (oct i1), .bool false]) hjd (gK _) (by rw [gT]; rfl) ⟨rfl, rfl⟩ ?_)))))⟩)))))))
 refine Runs.of rfl (Runs.pure ?_)
 refine s_cons (s_ife (r_notB (r_tr ?_ rfl)))
 refine r_callF (r_cons (r_callB (r_loc rfl (y_get1 hjd (r_cons (r_lit (r_nil (m_get1 hjd rfl (gK _) (r_cons (r_loc rfl (r_nil ?_)))))))))))
 rw [show (dGet es (.s "Parent")).getD .nil = optN ((some P).map rf) from gP]
 refine place_ok (n := n + 19) (o := some P) ⟨true, rfl, Runs.pure ?_⟩
 refine s_cons (s_ife (r_notB (r_tr ?_ rfl)))
 refine r_callF (r_cons (r_callB (r_loc rfl (y_get1 hjd (r_cons (r_lit (r_nil (m_get1 hjd rfl (gK _) (r_cons (r_loc rfl (r_nil ?_)))))))))))
 rw [show (dGet es (.s "Prev")).getD .nil = optN (prev.map rf) from gPv]
 refine place_ok (n := n + 19) (o := prev) ⟨true, rfl, Runs.pure ?_⟩
 refine s_cons (s_asg (r_callO (r_loc rfl ⟨_, _, rfl, rfl, r_cons (r_loc rfl (r_cons (r_loc rfl (r_cons (r_loc rfl (r_nil ?_))))))⟩)))
 refine IH kk a kas kn (rf a) j es pl U c st _ hkk hkid (fun _ => rfl) hx hjd (ltl hj hx.1) (ne_low hj h1) gK gF gL hp hS h1 h2 hn hnew hz fun s2 x2 k2 S2 => ?_
 refine s_cons (s_asg (r_callF (r_cons (r_attr (r_loc rfl (Runs.of rfl (r_cons (r_loc rfl (r_nil (gC (n + 17) _ _ _ _ _ (hat s2 x2).2.2.2 ?_))))))))))
 refine s_cons (s_ife (r_cmpB (r_bi (r_cons (r_loc rfl (r_nil (Runs.onO rfl (Runs.onO rfl (Runs.pure (r_loc rfl (c_eqI ?_)))))))))))
 rw [ndT hab]
 refine Runs.pure ?_
 refine s_cons (s_ret (r_bin (r_lit (r_ite (r_cmpB (r_loc rfl (r_lit (c_le ?_))))))))
 rw [hps]
 have hQ := hQ s2 x2 k2 S2
 cases o with
 | true => exact r_loc rfl (o_add (Runs.pure (r_ret rfl hQ)))
 | false => exact r_lit (o_add (Runs.pure (r_ret rfl hQ)))
theorem hp_a {c : Nat} (h : c < 3) : ((c : Nat) : Int).natAbs < 4000 := by omega
theorem hp_b {m c : Nat} {d : Nat} (h : d ≤ m) : d + 1 + 0 ≤ m + 1 := by omega
theorem hp_c {a m : Nat} (h : a ≤ 10 + 10 * m) (hm : m ≤ 10) : a + 1 + 1 ≤ 4000 ∧ a + 1 + 1 ≤ 10 + 10 * (m + 1) ∧ 1 ≤ 10 + 10 * (m + 1) ∧ a + 1 ≤ 4000 := by omega
theorem here_ok {n m c : Nat} {loc : Loc} {s : St} {pl : Str} {Q : V → St → Prop} (l49 : loc 49 = some (.str pl)) (l1 : loc 1 = some (.int c)) (hc : c < 3) (hp : PlOk m pl) (hm : m ≤ 10) (hQ : ∀ p, PlOk (m + 1) p → Q (.str p) s) : RV1 (callFn T n true) true loc Loc.none (.ite (.cmp .eqS false (.loc 49) (.lit (.str "root"))) (.bi .str (.cons (.loc 1) .nil)) (.bin .addS (.bin .addS (.loc 49) (.lit (.str "."))) (.bi .str (.cons (.loc 1) .nil)))) s Q := by
 have d := nat_dot c hc
 have b := hp_c hp.2 hm
 refine r_ite (r_cmpB (r_loc l49 (r_lit (Runs.onO rfl (Runs.onO rfl (Runs.pure ?_))))))
 by_cases h : pl = "root"
 ·rw [nbT h]
  exact r_bi (r_cons (r_loc l1 (r_nil (b_str (hp_a hc) (hQ _ ⟨by rw [d.1]; exact Nat.zero_le _, by rw [d.2]; exact b.2.2.1⟩)))))
 ·rw [nbF h]
  have e1 : (("." : Str)).length = 1 := by kernel_rfl
  have e2 : (("." : Str)).cps.toList.count 46 = 1 := by kernel_rfl
  refine r_bin (r_bin (r_loc l49 (r_lit (o_addS (by rw [e1]; exact b.2.2.2) (r_bi (r_cons (r_loc l1 (r_nil (b_str (hp_a hc) (o_addS ?_ (hQ _ ⟨?_, ?_⟩)))))))))))
  ·rw [str_len, e1, d.2]; exact b.1
  ·rw [str_cnt, str_cnt, e2, d.1]; exact hp_b (c := c) hp.1
  ·rw [str_len, str_len, e1, d.2]; exact b.2.1
theorem last_or {a : Int} {ar : List Int} {prev : Option Int} : ((a :: ar).getLast?).or prev = (ar.getLast?).or (some a) := by
 rw [List.getLast?_cons]
 cases ar.getLast? <;> rfl
theorem row0 (n m t r fl se : Nat) (s0 : St) (tab : Es1) : RowAt (n + 2) 0 m t r fl se s0 tab := by
 rintro _ P _ _ own i es pl U c st Q rfl ⟨rfl, rfl⟩ _ hx hi _ _ hk hF hL _ hS _ _ _ _ _ hQ
 refine c_open (fn := f550) rfl rfl rfl ?_
 refine s_cons (s_asg (r_lit ?_))
 refine s_cons (s_asg (r_lit ?_))
 refine s_cons (s_asg (r_callB (r_loc rfl (y_get1 hi (r_cons (r_lit (r_nil (m_get1 hi rfl (hk _) ?_))))))))
 rw [show (dGet es (.s "First")).getD .nil = .nil from hF]
 refine s_cons (s_asg (r_lit ?_))
 refine s_cons (s_whl (whl_inv (fun k loc s => s = st ∧ loc 13 = some .nil ∧ loc 11 = some (.ref i) ∧ loc 50 = some .nil ∧ loc 38 = some (.int 0)) (fun k loc s R h _ => ?_) fuelW 0 _ _ (by decide) ⟨rfl, rfl, rfl, rfl, rfl⟩))
 rw [h.1]
 refine r_cmpB (r_loc h.2.1 (r_lit (Runs.onP rfl (Runs.pure ⟨fun h => (by cases h), fun _ => ?_⟩))))
 refine s_cons (s_ife (r_notB (r_tr ?_ rfl)))
 refine r_callF (r_cons (r_callB (r_loc h.2.2.1 (y_get1 hi (r_cons (r_lit (r_nil (m_get1 hi rfl (hk _) (r_cons (r_loc h.2.2.2.1 (r_nil ?_)))))))))))
 rw [show (dGet es (.s "Last")).getD .nil = .nil from hL]
 refine Runs.of (place_nil n st) ⟨true, rfl, Runs.pure ?_⟩
 exact s_cons (s_ret (r_loc h.2.2.2.2 (Runs.pure (r_ret rfl (hQ st hx (Kept.refl ..) (hS.sub (fun x h => .inl h) (Nat.le_refl _)))))))
noncomputable def RI (t r fl se d : Nat) (i : Nat) (own : V) (pl : Str) (P : Int) (s0 : St) (tab : Es1) (st : St) (U : Int → Prop) (c : Nat) (ns : List Int) (hs : List V) (as : List Int) (k : Nat) (loc : Loc) (s : St) : Prop := ∀ C : Prop, (∀ hl hr ar prev rn tot, loc 2 = some (lk t r fl se) → loc 11 = some (.ref i) → loc 51 = some own → loc 49 = some (.str pl) →
 hs = hl ++ hr → k = hr.length → loc 13 = some (firstV ar) → loc 50 = some (optN (prev.map rf)) → loc 38 = some (.int tot) → loc 1 = some (.int (hl.length : Nat)) → tot + cnt (d + 1) hr = cnt (d + 1) hs → RowR (Cell 0 t s0 tab) (Row (Cell 0 t s0 tab) d) d P hr ar prev rn → as.getLast? = (ar.getLast?).or prev →
 Ext s0 s → Kept se st s → NI se U c ns rn s → C) → C
theorem lt_app {hs hl hr : List V} {h : V} (e : hs = hl ++ h :: hr) (hh : hs.length ≤ 3) : hl.length < 3 := by
 rw [e, lApp] at hh; exact ltl (Nat.lt_add_of_pos_right (Nat.succ_pos _)) hh
theorem ne_app {hs hl hr : List V} {h : V} (e : hs = hl ++ h :: hr) : hs ≠ [] := fun e' => by
 rw [e'] at e; exact absurd (List.append_eq_nil_iff.mp e.symm).2 (List.cons_ne_nil _ _)
theorem row_step {n d m t r fl se : Nat} {s0 : St} {tab : Es1} (hR : Rd t s0 tab) (IH : RowAt (n + 20) d (m + 1) t r fl se s0 tab) (hd : d + 1 ≤ 3) (hm : m ≤ 10) : RowAt (n + 22) (d + 1) m t r fl se s0 tab := by
 intro hs P as ns own i es pl U c st Q hok hrow hown hx hi hin his hk hF hL hp hS h1 h2 hn hnew hz hQ
 have hhl := heads_len hok hd
 refine c_open (fn := f550) rfl rfl rfl ?_
 refine s_cons (s_asg (r_lit ?_))
 refine s_cons (s_asg (r_lit ?_))
 refine s_cons (s_asg (r_callB (r_loc rfl (y_get1 hi (r_cons (r_lit (r_nil (m_get1 hi rfl (hk _) ?_))))))))
 rw [show (dGet es (.s "First")).getD .nil = firstV as from hF]
 refine s_cons (s_asg (r_lit ?_))
 refine s_cons (s_whl (whl_inv (RI t r fl se d i own pl P s0 tab st U c ns hs as) (fun k loc s R h hK => h _ fun hl hr ar prev rn tot l2 l11 l51 l49 e1 e2 l13 l50 l38 l1 ht hrow hlast xs ks N => ?_) fuelW hs.length _ _ (fuel_of hhl rfl)
  (fun C m => m [] hs as none ns 0 rfl rfl rfl rfl rfl rfl rfl rfl rfl rfl (Int.zero_add _) hrow (Option.or_none).symm hx (Kept.refl ..) (NI.start hS hn hnew))))
 refine row_cases hrow (fun er ea en => ?_) fun h hr' a ar' kas kn rn' er ea en hG hkid hrest => ?_
 ·rw [ea] at l13 hlast
  rw [en] at N
  rw [er, show cnt (d + 1) [] = 0 from rfl, Int.add_zero] at ht
  refine r_cmpB (r_loc l13 (r_lit (Runs.onP rfl (Runs.pure ⟨fun h => (by cases h), fun _ => ?_⟩))))
  refine s_cons (s_ife (r_notB (r_tr ?_ rfl)))
  have hi' := (ks.2 i hin his).trans hi
  refine r_callF (r_cons (r_callB (r_loc l11 (y_get1 hi' (r_cons (r_lit (r_nil (m_get1 hi' rfl (hk _) (r_cons (r_loc l50 (r_nil ?_)))))))))))
  rw [show (dGet es (.s "Last")).getD .nil = optN (prev.map rf) from hL.trans (congrArg (fun o => optN (o.map rf)) hlast)]
  refine place_ok (n := n + 20) (o := prev) ⟨true, rfl, Runs.pure ?_⟩
  refine s_cons (s_ret (r_loc l38 (Runs.pure (r_ret rfl ?_))))
  rw [ht]
  exact hQ s xs ks N.done
 ·rw [er] at e1 e2 ht
  rw [ea] at l13 hlast
  rw [en] at N
  have hdl := lt_app e1 hhl
  rw [hown (ne_app e1)] at l51
  have hmem : h ∈ hs := by rw [e1]; exact List.mem_append_right _ (List.mem_cons_self ..)
  obtain ⟨i1, k1, o, kk, eh, hi1, hk4, hokk, hkk⟩ := hok.2 h hmem
  rw [eh] at e1 hG hkid ht
  refine hR.cell hG fun j hj hat => ?_
  refine ig (d := d) (o := o) (P := P) (prev := prev) (next := ar'.head?) hi1 hk4 (row_len d hkk hkid) _ fun gK _ _ _ gN _ _ _ _ => ?_
  have hat' := hat s xs
  refine N.step fun seen U1 m1 fsd hsk ha lz N1 hnk hfk lz1 N2 => ?_
  refine r_cmpB (r_loc l13 (r_lit (Runs.onP rfl (Runs.pure ⟨fun _ => ?_, fun h => by cases h⟩))))
  refine s_cons (s_asg (here_ok (n := n + 21) l49 l1 hdl hp hm fun p hpp => ?_))
  refine s_cons (s_ife (r_notB (r_tr (r_callO (r_loc l2 ⟨_, _, rfl, rfl, r_cons (r_loc l13 (r_cons (r_loc rfl (r_nil (isitem_ok (n := n + 19) (m := m + 1) hat' fsd hsk (leK (Nat.le_trans lz hz) rfl) ha hpp (Nat.lt_of_le_of_lt (Nat.succ_le_succ hm) (by decide)) ⟨true, rfl, Runs.pure ?_⟩)))))⟩)) rfl)))
  have x2 : Ext s0 (s.set se (.dict (seen ++ [(.p a 0, .bool true)]))) := xs.but Kept.set h1
  have k2 : Kept se s (s.set se (.dict (seen ++ [(.p a 0, .bool true)]))) := Kept.set
  have N1 := N1 (s.set se (.dict (seen ++ [(.p a 0, .bool true)]))) set_self
  generalize s.set se (.dict (seen ++ [(.p a 0, .bool true)])) = s2 at x2 k2 N1 ⊢
  refine s_cons (s_asg (r_bin (r_loc l38 (r_callO (r_loc l2 ⟨_, _, rfl, rfl, r_cons (r_loc l13 (r_cons (r_loc l51 (r_cons (r_loc l50 (r_cons (r_loc rfl (r_nil ?_))))))))⟩)))))
  refine item_ok (n := n) (m := m + 1) hR IH hi1 hk4 hokk hkk hG hkid x2 hpp N1 h1 (ltl h2 (Nat.le_trans ks.1 k2.1)) hnk hfk (Nat.le_trans lz1 hz) fun s3 x3 k3 N3 => ?_
  have hat3 := hat s3 x3
  generalize itemE d (hv i1 k1 o kk) P prev ar'.head? kas = es' at hat3 gK gN
  refine o_add (s_cons (s_asg (r_loc l13 ?_)))
  refine s_cons (s_asg (r_callB (r_callO (r_attr (r_loc l2 (Runs.of rfl ⟨_, _, rfl, rfl, r_cons (r_loc l13 (r_nil (fetch_at (n := n + 20) hat3 ?_)))⟩))))))
  refine y_get1 hat3.2.2.2 (r_cons (r_lit (r_nil (m_get1 hat3.2.2.2 rfl (gK _) ?_))))
  rw [show (dGet es' (.s "Next")).getD .nil = firstV ar' from gN]
  refine s_cons (s_asg (r_bin (r_loc l1 (r_lit (o_add (Runs.pure (hK hr'.length _ _ (by rw [e2]; exact lts _) fun C m => m (hl ++ [hv i1 k1 o kk]) hr' ar' (some a) rn' _ l2 l11 (l51.trans (congrArg some (hown (ne_app e1)).symm)) l49 (by rw [e1, List.append_assoc]; rfl) rfl rfl rfl rfl ?_ ?_ hrest (hlast.trans last_or) x3 ((ks.trans k2).trans k3) (N2 s3 N3))))))))
  ·rw [lApp]; rfl
  ·exact (Int.add_assoc ..).trans ht
theorem row3 (n t r fl se : Nat) {s0 : St} {tab : Es1} (hR : Rd t s0 tab) : RowAt (n + 26) 3 0 t r fl se s0 tab :=
 row_step (n := n + 4) hR (row_step (n := n + 2) hR (row_step (n := n) hR (row0 (n + 18) 3 t r fl se s0 tab) (by decide) (by decide)) (by decide) (by decide)) (by decide) (by decide)
theorem new_look {n t r : Nat} {st : St} {Q : V → St → Prop} (h : ∀ st' fl se, Ext st st' → st.n ≤ fl → fl < st'.n → st.n ≤ se → se < st'.n → fl ≠ se → st'.f fl = .list [] → st'.f se = .dict [] → Q (lk t r fl se) st') : Runs (newV (callFn T (n + 1) true) 5 [sh t r]) st Q := by
 refine v_new (by decide) (c_open (fn := f529) rfl rfl rfl ?_)
 refine s_cons (s_asgAttr (r_loc rfl (r_loc rfl (a_set push_f rfl ?_))))
 have x1 : Ext st ((st.push (.inst 5 [])).set st.n (.inst 5 ([] ++ [sh t r]))) := ((Ext.refl st).push _).set (Nat.le_refl _) _
 have f1 : ((st.push (.inst 5 [])).set st.n (.inst 5 ([] ++ [sh t r]))).f st.n = .inst 5 [sh t r] := set_self
 have n1 : ((st.push (.inst 5 [])).set st.n (.inst 5 ([] ++ [sh t r]))).n = st.n + 1 := rfl
 generalize (st.push (.inst 5 [])).set st.n (.inst 5 ([] ++ [sh t r])) = s1 at x1 f1 n1 ⊢
 refine s_cons (s_asgAttr (r_lst (r_nil ⟨Nat.zero_le _, r_loc rfl (a_set (fs := [sh t r]) ((push_ne (by omega)).trans f1) rfl ?_)⟩)))
 have x2 : Ext st ((s1.push (.list [])).set st.n (.inst 5 ([sh t r] ++ [.ref s1.n]))) := (x1.push _).set (Nat.le_refl _) _
 have f2 : ((s1.push (.list [])).set st.n (.inst 5 ([sh t r] ++ [.ref s1.n]))).f st.n = .inst 5 [sh t r, .ref s1.n] := set_self
 have g2 : ((s1.push (.list [])).set st.n (.inst 5 ([sh t r] ++ [.ref s1.n]))).f s1.n = .list [] := (set_ne (by omega)).trans push_f
 have n2 : ((s1.push (.list [])).set st.n (.inst 5 ([sh t r] ++ [.ref s1.n]))).n = s1.n + 1 := rfl
 generalize (s1.push (.list [])).set st.n (.inst 5 ([sh t r] ++ [.ref s1.n])) = s2 at x2 f2 g2 n2 ⊢
 refine s_cons (s_asgAttr (r_dct (by decide) (r_nil ⟨rfl, r_loc rfl (a_set (fs := [sh t r, .ref s1.n]) ((push_ne (by omega)).trans f2) rfl ?_)⟩)))
 refine Runs.pure (Runs.pure ⟨rfl, _, set_self, rfl, ?_⟩)
 refine h _ s1.n s2.n (((x2.push _).set (Nat.le_refl _) _).set (Nat.le_refl _) _) x1.1 ?_ x2.1 (lts _) (by omega) ((set_ne (by omega)).trans ((set_ne (by omega)).trans ((push_ne (by omega)).trans g2))) ((set_ne (by omega)).trans ((set_ne (by omega)).trans push_f))
 show s1.n < s2.n + 1
 omega
theorem faults_ok {n t r : Nat} {s0 s : St} {tab es : Es1} {own : V} {hs : List V} {P : Int} {as ns : List Int} {Q : V → St → Prop} (hR : Rd t s0 tab) (hA : RootAt r s0 tab own es) (hG : HG es hs as) (hok : HeadsOk 3 hs) (hrow : Row (Cell 0 t s0 tab) 3 hs P as ns) (hown : hs ≠ [] → own = rf P) (hn : ns.Nodup) (hz : ns.length ≤ 60) (hx : Ext s0 s)
  (hQ : ∀ s', Ext s s' → Q (.lst []) s') : Runs (callFn T (n + 27) true 571 [sh t r]) s Q := by
 refine c_open (fn := f571) rfl rfl rfl ?_
 refine s_cons (s_asg (r_new (r_cons (r_loc rfl (r_nil (new_look (n := n + 25) fun s1 fl se x1 a1 a2 b1 b2 hne c1 c2 => ?_))))))
 refine s_cons (s_asg (r_callF (r_cons (r_loc rfl (r_nil (oroot_ok (n := n + 22) hR hA (hx.trans x1) fun s2 i x2 hi f2 hi0 => ?_))))))
 refine s_cons (s_asg (r_callO (r_loc rfl ⟨_, _, rfl, rfl, r_cons (r_loc rfl (r_cons (r_callB (r_callO (r_loc rfl ⟨_, _, rfl, rfl, r_nil (root_ok (n := n + 23) (t := t) hA ((hx.trans x1).trans x2) fun s3 i2 es1 x3 hi2 f3 k3 g3 => ?_)⟩)))))⟩)))
 refine y_get1 f3 (r_cons (r_lit (r_nil (m_get1 f3 rfl k3 (r_cons (r_lit (r_nil ?_)))))))
 rw [show (dGet es1 (.s "Outlines")).getD .nil = own from g3]
 have x23 := x2.trans x3
 have hi3 := ltl hi x3.1
 have hise : i ≠ se := hi0.elim (fun h => ne_low h (Nat.le_trans hx.1 b1)) fun h => ne_up b2 h
 refine row3 n t r fl se hR hs P as ns own i es "root" (fun _ => False) 0 s3 _ hok hrow hown ((hx.trans x1).trans x23) ((x3.2 i hi).trans f2) hi3 hise hG.1 hG.2.1 hG.2.2.1 ⟨odt (by kernel_rfl), odt (by kernel_rfl)⟩ (fun C k => k [] ((x23.2 se b2).trans c2) (fun e he => absurd he nmn) (Nat.le_refl 0) fun y hy => absurd hy nmn) (Nat.le_trans hx.1 b1) (ltl b2 x23.1) hn (fun x _ h => h) (by rw [Nat.zero_add]; exact hz) fun s4 x4 k4 _ => ?_
 refine s_cons (s_ife (r_cmpB (r_callF (r_cons (r_loc rfl (r_cons (r_loc rfl (r_nil (hG.2.2.2 (n + 23) _ _ _ _ _ ((k4.2 i hi3 hise).trans ((x3.2 i hi).trans f2)) ?_)))))))))
 refine r_loc rfl (c_eqI ?_)
 rw [ndT (p := cnt 3 hs = cnt 3 hs) rfl]
 refine Runs.pure (s_cons (s_ret (r_attr (r_loc rfl (Runs.of rfl (Runs.pure (r_frzL ((k4.2 fl (ltl a2 x23.1) hne).trans ((x23.2 fl a2).trans c1)) (hQ _ ?_))))))))
 exact ((x1.trans x23).but k4 b1).but Kept.set a1
section
variable {a b x y : Int} {r : List Int}
theorem ins_pos (h : a ≤ b) : ins intLe a (b :: r) = a :: b :: r := if_pos (decide_eq_true h)
theorem ins_neg (h : ¬ a ≤ b) : ins intLe a (b :: r) = b :: ins intLe a r := if_neg (by unfold intLe; rw [decide_eq_false h]; decide)
theorem ins_comm : ∀ r : List Int, ins intLe x (ins intLe y r) = ins intLe y (ins intLe x r)
 | [] => by
  show ins intLe x [y] = ins intLe y [x]
  by_cases h : x ≤ y
  ·rw [ins_pos h]
   by_cases h' : y ≤ x
   ·rw [ins_pos h', Int.le_antisymm h h']
   ·rw [ins_neg h']; rfl
  ·rw [ins_neg h, ins_pos (Int.le_of_lt (Int.not_le.mp h))]; rfl
 | c :: r => by
  by_cases hy : y ≤ c
  ·rw [ins_pos hy]
   by_cases hx : x ≤ c
   ·rw [ins_pos hx]
    by_cases h : x ≤ y
    ·rw [ins_pos h]
     by_cases h' : y ≤ x
     ·rw [ins_pos h', Int.le_antisymm h h']
     ·rw [ins_neg h', ins_pos hy]
    ·rw [ins_neg h, ins_pos (Int.le_of_lt (Int.not_le.mp h)), ins_pos hx]
   ·rw [ins_neg hx, ins_neg (fun h => hx (Int.le_trans h hy)), ins_neg hx, ins_pos hy]
  ·rw [ins_neg hy]
   by_cases hx : x ≤ c
   ·rw [ins_pos hx, ins_pos hx, ins_neg (fun h => hy (Int.le_trans h hx)), ins_neg hy]
   ·rw [ins_neg hx, ins_neg hx, ins_neg hy, ins_comm r]
theorem isort_ins : ∀ l b : List Int, isort intLe (ins intLe x l ++ b) = ins intLe x (isort intLe (l ++ b))
 | [], b => rfl
 | c :: l, b => by
  by_cases h : x ≤ c
  ·rw [ins_pos h]; rfl
  ·rw [ins_neg h]
   show ins intLe c (isort intLe (ins intLe x l ++ b)) = ins intLe x (ins intLe c (isort intLe (l ++ b)))
   rw [isort_ins l b, ins_comm]
theorem isort_isort : ∀ l b : List Int, isort intLe (isort intLe l ++ b) = isort intLe (l ++ b)
 | [], b => rfl
 | c :: l, b => (isort_ins (isort intLe l) b).trans (congrArg (ins intLe c) (isort_isort l b))
theorem mem_ins : ∀ {l : List Int}, x = a ∨ x ∈ l → x ∈ ins intLe a l
 | [], h => List.mem_singleton.mpr (h.resolve_right nmn)
 | b :: l, h => by
  by_cases h' : a ≤ b
  ·rw [ins_pos h']; exact List.mem_cons.mpr h
  ·rw [ins_neg h']
   rcases h with h | h
   ·exact List.mem_cons_of_mem _ (mem_ins (.inl h))
   ·rcases List.mem_cons.mp h with h | h
    ·rw [h]; exact List.mem_cons_self ..
    ·exact List.mem_cons_of_mem _ (mem_ins (.inr h))
theorem mem_isort : ∀ {l : List Int}, x ∈ isort intLe l ↔ x ∈ l
 | [] => Iff.rfl
 | a :: l => ⟨isort_mem, fun h => mem_ins ((List.mem_cons.mp h).imp id mem_isort.mpr)⟩
end
theorem b_sortL {v : V} {l : List Int} {q : Bool} {st : St} {Q : V → St → Prop} (h : listOf st v = some (l.map .int)) (hz : l.length < 64) (hQ : Q (.ref st.n) (st.push (.list ((isort intLe l).map .int)))) : Runs (biV q .sortL [v]) st Q :=
 (r_onL h (Runs.onO (intsOf_map l) (Runs.onP (by rw [List.length_map]; exact hz) ⟨_, _, rfl, hQ⟩)) : Runs (onL v fun xs => onO (intsOf xs) fun l => onP (xs.length < 64) (mPush (.list ((isort intLe l).map .int)))) st Q)
theorem dp_int {xs : List Int} : ∀ v ∈ xs.map V.int, dp 12 v = true := fun v hv => by obtain ⟨x, _, rfl⟩ := List.mem_map.mp hv; rfl
theorem l_dct {st : St} {j : Nat} {es : Es1} {R : Unit → St → Prop} (h : st.f j = .dict es) (hk : ∀ e ∈ es, e.1.kind = 1) (hR : R () (st.set j (.ldict es))) : Runs (lockV .dct (.ref j)) st R :=
 (Runs.onO (dictAt_of h) (Runs.onP (List.all_eq_true.mpr fun e he => beq_iff_eq.mpr (hk e he)) ⟨(), _, rfl, hR⟩) : Runs (onO (dictAt st (.ref j)) fun p => onP (p.2.all (fun e => e.1.kind == 1) = true) fun st => some (.ok (), st.set p.1 (.ldict p.2))) st R)
theorem next_d {st : St} {j i : Nat} {es : Es1} (h : st.f j = .ldict es) (hk : ∀ e ∈ es, e.1.kind = 1) : nextV st .dct (.ref j) i = some (es.map fun e => e.1.toV)[i]? := by
 show (((st.f j).ldict?).bind fun es => if es.all (fun e => e.1.kind == 1) then some (es[i]?.map fun e => e.1.toV) else none) = _
 rw [h, List.getElem?_map]
 exact if_pos (List.all_eq_true.mpr fun e he => beq_iff_eq.mpr (hk e he))
theorem dictR_l {st : St} {i : Nat} {es : Es1} (hd : st.f i = .ldict es) : dictR st (.ref i) = some (i, es) := by show ((st.f i).dict?.or (st.f i).ldict?).map _ = _; rw [hd]; rfl
theorem sts_dp {es : Es1} (h : STs es) : ∀ p ∈ toldL es, dp 11 (tw (p.2.getD .nil)) = true := fun p hp => by
 obtain ⟨k, hk, rfl⟩ := List.mem_map.mp hp
 obtain ⟨e, he, hek⟩ := List.mem_map.mp (isort_mem hk)
 obtain ⟨x, hx⟩ := (h.2 e he).1
 have hkm : DK.s k ∈ ky es := List.mem_map.mpr ⟨e, he, by rw [hx] at hek ⊢; rw [← hek]; rfl⟩
 obtain ⟨w, hw, hwe⟩ := dGet_in hkm
 show dp 11 (tw ((dGet es (.s k)).getD .nil)) = true
 rw [hw]
 exact (h.2 _ hwe).2.2.2
theorem due_key {tk du : Nat} {st : St} {cs : List (Int × Es1)} {ds : Es1} {u : V} {rr : List V} {C : Prop} (due : ∀ e ∈ ds, DueAt tk du st cs e) (h : ∀ w ∈ u :: rr, ∃ e ∈ ds, w = e.1.toV) (k : ∀ c j es', c ∈ cs → u = .int c.1 → dGet ds (.i c.1) = some (.ref j) → j < st.n → j ≠ du → st.f j = .dict es' → toldL es' = toldL c.2 → STs es' → STs c.2 → C) : C := by
 obtain ⟨e, he, eu⟩ := h u (List.mem_cons_self ..)
 obtain ⟨v, hv, hve⟩ := dGet_in (es := ds) (k := e.1) (List.mem_map_of_mem he)
 refine due _ hve _ fun c j es' hc h1 h2 _ h4 h5 h6 h7 h8 => k c j es' hc (eu.trans (congrArg DK.toV (Prod.mk.inj h1).1)) ?_ h2 h4 h5 h6 h7 h8
 rw [← (Prod.mk.inj h1).1, ← (Prod.mk.inj h1).2]; exact hv
theorem due_loop {n t r du : Nat} {loc : Loc} {st : St} {es2 ds : Es1} {tk : Nat} {cs : List (Int × Es1)} {Q : Fl × Loc → St → Prop} (l43 : loc 43 = some (sh t r)) (l60 : loc 60 = some (.ref du)) (fT : st.f t = .dict es2) (kE : ∀ e ∈ es2, e.1.kind = 1) (ht : t < st.n) (htd : t ≠ du) (hdn : du < st.n)
  (cells : ∀ c ∈ cs, Cell 0 du st es2 c) (fD : st.f du = .dict ds) (due : ∀ e ∈ ds, DueAt tk du st cs e) (hz : ds.length ≤ 60) (hQ : ∀ lc s', (∀ x, x ≠ 7 → lc x = loc x) → Kept du st s' → Q (.next, lc) s') :
  RS1 (callFn T (n + 20)) true loc (.for1 .dct 7 (.loc 60) (.cons (.ife (.or (.cons (.cmp .eqI true (.idx .tup (.idx .dct (.attr (.loc 43) 5) (.loc 7)) (.lit (.int 0))) (.lit (.int 0))) (.cons (.cmp .sameT true (.callF 277 (.cons (.idx .tup (.idx .dct (.attr (.loc 43) 5) (.loc 7)) (.lit (.int 1))) .nil)) (.callF 277 (.cons (.idx .dct (.loc 60) (.loc 7)) .nil))) .nil))) (.cons (.ret (.lit (.bool false))) .nil) .nil) .nil)) st Q := by
 have hk : ∀ e ∈ ds, e.1.kind = 1 := fun e he => due e he _ fun c j _ _ h _ _ _ _ _ _ _ => by rw [h]; rfl
 refine s_for (r_loc l60 (l_dct fD hk ?_))
 refine for_lst (xs := ds.map fun e => e.1.toV) (fun rr lc s => (∀ x, x ≠ 7 → lc x = loc x) ∧ Kept du st s ∧ s.f du = .ldict ds ∧ ∀ u ∈ rr, ∃ e ∈ ds, u = e.1.toV) (fun rr lc s i h => next_d h.2.2.1 hk) (fun u rr lc s R h hK => due_key due h.2.2.2 fun c j es' hc eu hv h2 h4 h5 h6 h7 h8 => cells c hc _ fun j2 g1 _ g2 g3 g4 => ?_) (fun lc s h => hQ lc s h.1 h.2.1) (ds.map fun e => e.1.toV) fuelW 0 loc _ rfl (by rw [List.length_map]; exact fuel_of hz rfl)
  ⟨fun _ _ => rfl, Kept.set, set_self, fun u hu => let ⟨e, he, h⟩ := List.mem_map.mp hu; ⟨e, he, h.symm⟩⟩
 have hall := fun w hw => h.2.2.2 w (List.mem_cons_of_mem _ hw)
 have ks := h.2.1
 have fT' := (ks.2 t ht htd).trans fT
 rw [eu]
 have m43 : (lc.put 7 (.int c.1)) 43 = some (sh t r) := (h.1 43 (by decide)).trans l43
 have m60 : (lc.put 7 (.int c.1)) 60 = some (.ref du) := (h.1 60 (by decide)).trans l60
 refine s_cons (s_ife (r_orB (r_cmpB (r_idx (r_idx (r_attr (r_loc m43 (Runs.of rfl (r_loc rfl (i_dct (dictR_of fT') rfl (kind_of kE) g1 (r_lit (i_tup (j := 0) rfl rfl (r_lit (c_eqI ⟨fun h => (by cases h), fun _ => ?_⟩))))))))))))))
 refine r_cmpB (r_callF (r_cons (r_idx (r_idx (r_attr (r_loc m43 (Runs.of rfl (r_loc rfl (i_dct (dictR_of fT') rfl (kind_of kE) g1 (r_lit (i_tup (j := 1) rfl rfl (r_nil ?_))))))))))))
 have hdus : du < s.n := ltl hdn ks.1
 refine told_d (n := n + 13) (dictR_of ((ks.2 j2 g2 g3).trans g4)) (ltl g2 ks.1) h8 fun s1 x1 => ?_
 have fd1 := (x1.2 du hdus).trans h.2.2.1
 have j1 := ltl h2 ks.1
 refine r_callF (r_cons (r_idx (r_loc m60 (r_loc rfl (i_dct (dictR_l fd1) rfl (kind_of hk) hv (r_nil ?_))))))
 refine told_d (n := n + 13) (dictR_of ((x1.2 j j1).trans ((ks.2 j h2 h4).trans h5))) (ltl j1 x1.1) h7 fun s2 x2 => ?_
 rw [h6]
 exact c_sameT (toldV_dp (l := toldL c.2) (sts_dp h8) _ rfl) (Runs.pure (Runs.pure (hK _ _ ⟨fun x hx => (if_neg hx).trans (h.1 x hx), (ks.trans x1.kept).trans x2.kept, (x2.2 du (ltl hdus x1.1)).trans fd1, hall⟩)))
noncomputable def vInt (es : Es1) (k : Int) : Int := ((dGet es (.i k)).bind fun v => v.tup?.bind fun xs => xs[1]?.bind V.int?).getD 0
noncomputable def bt (es : Es1) (k : Int) : V := .tup [.int k, .tup [.str "int", .int (vInt es k)]]
theorem elt_ok {n t r : Nat} {loc up : Loc} {s : St} {es' : Es1} {k x : Int} {Q : V → St → Prop} (l7 : loc 7 = some (.int k)) (u43 : up 43 = some (sh t r)) (fT : s.f t = .dict es') (kE : ∀ e ∈ es', e.1.kind = 1) (hv : dGet es' (.i k) = some (.tup [.int 0, .int x])) (hQ : Q (.tup [.int k, .tup [.str "int", .int x]]) s) :
  RV1 (callFn T (n + 6) true) true loc up (.tup (.cons (.loc 7) (.cons (.callF 277 (.cons (.idx .tup (.idx .dct (.attr (.up 43) 5) (.loc 7)) (.lit (.int 1))) .nil)) .nil))) s Q :=
 r_tup (r_cons (r_loc l7 (r_cons (r_callF (r_cons (r_idx (r_idx (r_attr (r_up u43 (Runs.of rfl (r_loc l7 (i_dct (dictR_of fT) rfl (kind_of kE) hv (r_lit (i_tup (j := 1) rfl rfl (r_nil (Runs.of (told_int (n + 2) s x) (r_nil ⟨(lbr rfl), hQ⟩)))))))))))))))))
theorem bt_comp {n t r : Nat} {loc : Loc} {s : St} {es es' : Es1} {ks : List Int} {v : V} {tg : List Nat} {g : Int → V} (u43 : loc 43 = some (sh t r)) (fT : s.f t = .dict es') (kE : ∀ e ∈ es', e.1.kind = 1) (hv : ∀ k ∈ ks, dGet es' (.i k) = some (.tup [.int 0, .int (vInt es k)])) (hl : listOf s v = some (ks.map g))
  (hb : ∀ k lc, ∃ lc', bindT tg (g k) lc = some lc' ∧ lc' 7 = some (.int k)) (hz : ks.length ≤ 60) {Q : List V → St → Prop} (hQ : Q (ks.map (bt es)) s) :
  Runs (compL true (fun l => (ev2 (callFn T (n + 6) true) true l loc (.tup (.cons (.loc 7) (.cons (.callF 277 (.cons (.idx .tup (.idx .dct (.attr (.up 43) 5) (.loc 7)) (.lit (.int 1))) .nil)) .nil)))).1) (fun _ => M.pure true) tg .lst v fuelW 0 Loc.none []) s Q := by
 refine comp_lst (xs := ks.map g) (fun r acc s' => s' = s ∧ ∃ a b, ks = a ++ b ∧ r = b.map g ∧ acc = a.map (bt es)) (fun _ _ s' i h => by rw [h.1]; exact congrArg (Option.map _) hl) ?_ ?_ (ks.map g) fuelW 0 Loc.none [] s rfl (by rw [List.length_map]; exact fuel_of hz rfl) ⟨rfl, [], ks, rfl, rfl, rfl⟩
 ·intro u r' acc lc s' R h hK
  refine h.2.elim fun a h2 => h2.elim fun b h2 => ?_
  cases b with
  | nil => exact absurd h2.2.1 (List.cons_ne_nil _ _)
  | cons k b =>
   have e2 := List.cons.inj h2.2.1
   refine (hb k lc).elim fun lc' hh => ⟨lc', (congrArg (bindT tg · lc) e2.1).trans hh.1, Runs.pure ⟨rfl, ?_⟩⟩
   rw [h.1]
   exact elt_ok hh.2 u43 fT kE (hv k (by rw [h2.1]; exact List.mem_append_right _ (List.mem_cons_self ..))) (hK _ _ ⟨rfl, a ++ [k], b, by rw [h2.1, List.append_assoc]; rfl, e2.2, by rw [h2.2.2, List.map_append]; rfl⟩)
 ·intro acc s' h
  refine h.2.elim fun a h2 => h2.elim fun b h2 => ?_
  cases b with
  | cons k b => exact absurd h2.2.1.symm (List.cons_ne_nil _ _)
  | nil => rw [h.1, h2.2.2, ← List.append_nil a, ← h2.1]; exact hQ
theorem dp_bt {es : Es1} {ks : List Int} : ∀ v ∈ ks.map (bt es), dp 12 v = true := fun v hv => by obtain ⟨x, _, rfl⟩ := List.mem_map.mp hv; rfl
noncomputable def Ss.tl : Ss → Ss | .cons _ r => r | .nil => .nil
noncomputable def law (k : Nat) : Ss := Nat.repeat Ss.tl k f631.body
theorem pair_ok (n : Nat) (st : St) (a : Int) : callFn T (n + 1) true 251 [rf a] st = some (.ok (.tup [.int a, .int 0]), st) := by kernel_rfl
theorem kinds_ky {es : Es1} {ks : List Int} (h : ky es = ks.map .i) : ∀ e ∈ es, e.1.kind = 1 := fun e he => by
 have := List.mem_map_of_mem (f := (·.1)) he
 rw [show List.map (·.1) es = _ from h] at this
 obtain ⟨x, _, e⟩ := List.mem_map.mp this
 rw [← e]; rfl
theorem rz {k r l m : Nat} (h1 : k ≤ m) (h2 : r ≤ l * (1 + m)) : k + r + 1 ≤ (l + 1) * (1 + m) := by rw [Nat.succ_mul]; omega
theorem rowR_sz {G : Int × Es1 → Prop} {f : List V → Int → List Int → List Int → Prop} {d m : Nat} {P : Int} (hf : ∀ ks a as ns, HeadsOk d ks → f ks a as ns → ns.length ≤ m) : ∀ (hs : List V) (as : List Int) (prev : Option Int) (ns : List Int), (∀ h ∈ hs, HeadsOk d (kidsOf h)) → RowR G f d P hs as prev ns → ns.length ≤ hs.length * (1 + m)
 | [], as, _, ns, _, h => by rw [h.2]; exact Nat.zero_le _
 | h :: hs, as, _, ns, hh, H => H.elim fun a H => H.elim fun ar H => H.elim fun kas H => H.elim fun kn H => H.elim fun rn H => by
  rw [H.2.1, List.length_cons, lApp]
  exact rz (hf _ _ _ _ (hh h (List.mem_cons_self ..)) H.2.2.2.1) (rowR_sz hf hs ar _ rn (fun x hx => hh x (List.mem_cons_of_mem _ hx)) H.2.2.2.2)
theorem row_sz {G : Int × Es1 → Prop} : ∀ (d : Nat) (hs : List V) (P : Int) (as ns : List Int), HeadsOk d hs → Row G d hs P as ns → ns.length ≤ sz d
 | 0, hs, _, _, ns, h, hr => by rw [hr.2]; exact Nat.zero_le _
 | d + 1, hs, P, as, ns, h, hr => Nat.le_trans (rowR_sz (fun ks a as ns => row_sz d ks a as ns) hs as none ns (kids_ok h) hr) (Nat.mul_le_mul_right _ h.1)
theorem Kept.far {p q : Nat} {a b c : St} (x : Kept p a b) (y : Kept q b c) (h : a.n ≤ q) : Kept p a c := ⟨Nat.le_trans x.1 y.1, fun j hj hp => (y.2 j (ltl hj x.1) (Nat.ne_of_lt (ltl hj h))).trans (x.2 j hj hp)⟩
theorem r_and3 {call : Addr → List V → M V} {q : Bool} {loc up : Loc} {st : St} {a b c : E} {Q : V → St → Prop} (h : RV1 call q loc up a st fun v s1 => v = .bool true ∧ RV1 call q loc up b s1 fun w s2 => w = .bool true ∧ RV1 call q loc up c s2 Q) : RV1 call q loc up (.and (.cons a (.cons b (.cons c .nil)))) st Q :=
 Runs.bind (h.mono fun v s1 h => by
  rw [h.1]
  exact Runs.bind (Runs.of rfl (Runs.bind (h.2.mono fun w s2 h => by rw [h.1]; exact Runs.bind (Runs.of rfl h.2)))))
section
variable {n t r : Nat} {loc : Loc} {s0 s : St} {tab es : Es1} {own : V} {hs : List V} {P : Int} {as ns : List Int} {B : Bool → St → Prop}
theorem no_faults (l43 : loc 43 = some (sh t r)) (hR : Rd t s0 tab) (hA : RootAt r s0 tab own es) (hG : HG es hs as) (hok : HeadsOk 3 hs) (hrow : Row (Cell 0 t s0 tab) 3 hs P as ns) (hown : hs ≠ [] → own = rf P) (hn : ns.Nodup) (hz : ns.length ≤ 60) (hx : Ext s0 s)
  (hB : ∀ s', Ext s s' → B false s') : RB1 (callFn T (n + 60) true) true loc Loc.none (.cmp .sameL true (.callF 571 (.cons (.loc 43) .nil)) (.lst .nil)) s B :=
 r_cmpB (r_callF (r_cons (r_loc l43 (r_nil (faults_ok (n := n + 33) hR hA hG hok hrow hown hn hz hx fun s1 x1 => r_lst (r_nil ⟨Nat.zero_le _, c_sameL (xs := []) (ys := []) rfl (listOf_ref push_f) rfl (hB _ (x1.push _))⟩))))))
end
theorem row_nil (G : Int × Es1 → Prop) (P : Int) : Row G 3 [] P [] [] := ⟨rfl, rfl⟩
theorem heads_nil : HeadsOk 3 [] := ⟨Nat.zero_le _, fun h hh => absurd hh nmn⟩
theorem ch_all (n : Nat) (st : St) : ∀ d : Nat, d < 6 → callFn T (n + 60) true 626 [.int (18 + (d : Int))] st = some (.ok (.bool true), st)
 | 0, _ => ch18 n st
 | 1, _ => ch19 n st
 | 2, _ => ch20 n st
 | 3, _ => ch21 n st
 | 4, _ => ch22 n st
 | 5, _ => ch23 n st
 | d + 6, h => absurd h (by omega)
theorem ch_int {n : Nat} {st : St} {d : Int} {Q : V → St → Prop} (h0 : 0 ≤ d) (h1 : d < 6) (hQ : Q (.bool true) st) : Runs (callFn T (n + 60) true 626 [.int (18 + d)]) st Q :=
 (Int.eq_ofNat_of_zero_le h0).elim fun k e => by
  rw [e] at h1 ⊢
  exact Runs.of (ch_all n st k (Int.ofNat_lt.mp h1)) hQ
noncomputable def Cell2 (t r : Nat) (s : St) (es : Es1) (c : Int × Es1) : Prop := ∀ C : Prop, (∀ j, dGet es (.i c.1) = some (.tup [.int 0, .ref j]) → j < s.n → j ≠ t → j ≠ r → s.f j = .dict c.2 → C) → C
theorem PoolAt.same {p : Nat} {s s' : St} (h : PoolAt p s) (e : s'.f p = s.f p) : PoolAt p s' := h.elim fun xs h => ⟨xs, e.trans h.1, h.2⟩
theorem segD {n : Nat} {loc : Loc} {hs : List V} {st : St} {p t r : Nat} {pn : Int} {es2 : Es1} {S : Int → Prop} (hok : HeadsOk 3 hs) (hbd : Bnd S) (hpn : pn = free S) (l56 : loc 56 = some (.ref p)) (l37 : loc 37 = some (.lst hs)) (l43 : loc 43 = some (sh t r)) (l44 : loc 44 = some (rf pn))
  (hp : PoolAt p st) (p1 : p < st.n) (pr : p ≠ r) (t1 : t < st.n) (tr : t ≠ r) (r1 : r < st.n) (fT : st.f t = .dict es2) (kE : ∀ e ∈ es2, e.1.kind = 1) (fR : st.f r = .dict []) (cells : ∀ c ∈ (wlay hs S).2, Cell2 t r st es2 c) :
  RSs (callFn T (n + 60)) true loc (law 17) st fun q st' => Runs (retV false q.1) st' fun v _ => v.clo = true ∧ v = .bool true := by
 refine s_cons (s_asgIdx (r_dct (by decide) (r_cons (r_loc l44 (r_nil ⟨rfl, r_attr (r_loc l43 (Runs.of rfl (r_lit (x_dct ((push_ne r1).trans fR) rfl rfl (Nat.zero_le _) ?_))))⟩)))))
 have k5 : Kept r st ((st.push (.dict ([.s "Outlines"].zip [rf pn]))).set r (.dict (dSet [] (.s "Root") (.ref st.n)))) := (Kept.refl r st).push.trans Kept.set
 have fr : ((st.push (.dict ([.s "Outlines"].zip [rf pn]))).set r (.dict (dSet [] (.s "Root") (.ref st.n)))).f r = .dict [(.s "Root", .ref st.n)] := set_self
 have fd : ((st.push (.dict ([.s "Outlines"].zip [rf pn]))).set r (.dict (dSet [] (.s "Root") (.ref st.n)))).f st.n = .dict [(.s "Outlines", rf pn)] := (set_ne (Nat.ne_of_gt r1)).trans push_f
 have n5 : st.n < ((st.push (.dict ([.s "Outlines"].zip [rf pn]))).set r (.dict (dSet [] (.s "Root") (.ref st.n)))).n := lts _
 show RSs _ _ _ _ ((st.push (.dict ([.s "Outlines"].zip [rf pn]))).set r (.dict (dSet [] (.s "Root") (.ref st.n)))) _
 generalize (st.push (.dict ([.s "Outlines"].zip [rf pn]))).set r (.dict (dSet [] (.s "Root") (.ref st.n))) = s5 at k5 fr fd n5 ⊢
 have hR : Rd t s5 es2 := ⟨(k5.2 t t1 tr).trans fT, kE, ltl t1 k5.1⟩
 have cell5 : ∀ c ∈ (wlay hs S).2, Cell 0 t s5 es2 c := fun c hc C k => cells c hc _ fun j h1 h2 h3 h4 h5 => k j h1 (Nat.zero_le _) (ltl h2 k5.1) h3 ((k5.2 j h2 h4).trans h5)
 have hG : HG (headE hs (nums hs.length (addS S [free S]))) hs (nums hs.length (addS S [free S])) := HG.head (nums_len _ _)
 have hA : RootAt r s5 es2 (rf pn) (headE hs (nums hs.length (addS S [free S]))) := ⟨ltl r1 k5.1, fun C _ k => cell5 _ (List.mem_append_right _ (List.mem_singleton.mpr rfl)) _ fun jh g1 _ g2 _ g3 => k st.n pn jh fr n5 fd rfl (hpn ▸ g1) g2 g3⟩
 refine (lay_row (G := Cell 0 t s5 es2) 3 hs (free S) (addS S [free S]) hok hbd.one fun c hc => cell5 c (List.mem_append_left _ hc)).elim fun ns h => ?_
 have hrow := h.1
 have hnz : ns.length ≤ 60 := Nat.le_trans (row_sz 3 hs _ _ ns hok hrow) (by decide)
 generalize nums hs.length (addS S [free S]) = as at hA hG hrow
 generalize headE hs as = eh at hA hG
 refine s_cons (s_ife (r_orB (r_notB (r_tr ?_ rfl))))
 refine r_callF (r_cons (r_callF (r_cons (r_loc l43 (r_nil (read_ok (n := n + 36) hR hA hG hok hrow h.2.1 hnz (Ext.refl s5) fun s6 x6 => ?_))))))
 refine r_cons (r_loc l37 (r_nil (alike4 (n := n + 50) hok ?_)))
 refine ⟨true, rfl, fun h => (by cases h), fun _ => no_faults l43 hR hA hG hok hrow (fun _ => by rw [hpn]) h.2.1 hnz x6 fun s8 x8 => Runs.pure ?_⟩
 have hp8 : PoolAt p s8 := hp.same (((x6.trans x8).2 p (ltl p1 k5.1)).trans (k5.2 p p1 pr))
 refine s_cons (s_ret (r_and3 (r_cmp (r_callF (r_cons (r_loc l37 (r_nil (vis_ok4 (n := n + 56) hok (by decide) ?_))))))))
 refine r_callF (r_cons (r_loc l37 (r_nil (seen_ok4 (n := n + 56) hok (by decide) ?_))))
 refine c_eqI ⟨by rw [nbT (p := cnt 3 hs = cnt 3 hs) rfl], ?_⟩
 refine r_callF (r_nil (Runs.of (tr_right (n + 48) s8) ⟨rfl, ?_⟩))
 refine r_callF (r_cons (r_bin (r_lit (r_callF (r_cons (r_loc l56 (r_cons (r_lit (r_nil (take_ok (n := n + 59) hp8 (by decide) (by decide) fun d s10 d0 d1 _ _ => ?_))))))))))
 exact o_add (r_nil (ch_int d0 d1 (Runs.pure (r_ret rfl ⟨rfl, rfl⟩))))
theorem sort_len {ks W : List Int} (hw : (ks ++ W).length ≤ 60) : (isort intLe ks ++ W).length < 64 ∧ (isort intLe ks).length ≤ 60 := by
 rw [lApp, isort_len, ← lApp]
 exact ⟨Nat.lt_of_le_of_lt hw (by decide), by rw [lApp] at hw; exact Nat.le_trans (Nat.le_add_right ..) hw⟩
theorem segC {n : Nat} {loc : Loc} {hs : List V} {sw st : St} {p t r tk bl du b : Nat} {pn : Int} {es es2 ds : Es1} {ks : List Int} {S : Int → Prop} (hok : HeadsOk 3 hs) (hbd : Bnd S) (hpn : pn = free S)
  (l56 : loc 56 = some (.ref p)) (l37 : loc 37 = some (.lst hs)) (l43 : loc 43 = some (sh t r)) (l44 : loc 44 = some (rf pn)) (l59 : loc 59 = some (.ref tk)) (l50 : loc 50 = some (.ref bl)) (l60 : loc 60 = some (.ref du)) (l49 : loc 49 = some (.int pn))
  (hp : PoolAt p sw) (p1 : p < b) (t1 : t < b) (r1 : r < b) (k1 : tk < b) (b1 : bl < b) (bw : b ≤ sw.n) (pr : p ≠ r) (tr : t ≠ r) (pk : p ≠ tk) (tk0 : t ≠ tk) (rk : r ≠ tk) (bk : bl ≠ tk)
  (fT : sw.f t = .dict es2) (fR : sw.f r = .dict []) (fB : sw.f bl = .list ((isort intLe ks).map (bt es))) (kE2 : ky es2 = (ks ++ (wlay hs S).1).map .i) (hw : (ks ++ (wlay hs S).1).length ≤ 60) (old : ∀ k ∈ ks, dGet es2 (.i k) = some (.tup [.int 0, .int (vInt es k)]))
  (cells : ∀ c ∈ (wlay hs S).2, Cell b t sw es2 c) (kS : Kept tk sw st) (fK : st.f tk = .list ((isort intLe ks ++ (wlay hs S).1).map .int)) (fD : st.f du = .dict ds) (du0 : sw.n ≤ du) (du1 : du < st.n) (due : ∀ e ∈ ds, DueAt tk du st (wlay hs S).2 e) (dz : ds.length ≤ 60) :
  RSs (callFn T (n + 60)) true loc (law 13) st fun q st' => Runs (retV false q.1) st' fun v _ => v.clo = true ∧ v = .bool true := by
 have kE := kinds_ky kE2
 have tkn : tk < st.n := ltl (ltl k1 bw) kS.1
 have keep : ∀ {s : St} {j : Nat}, Kept tk sw s → j < b → j ≠ tk → s.f j = sw.f j := fun k h1 h2 => k.2 _ (ltl h1 bw) h2
 have lift : ∀ {s : St} {j : Nat}, Kept tk sw s → j < b → j < s.n := fun k h => ltl (ltl h bw) k.1
 have hsl := sort_len hw
 generalize hW : (wlay hs S).1 = W at kE2 hw fK hsl
 refine s_cons (s_ife (r_orB (r_cmpB (r_callO (r_loc l44 ⟨_, _, rfl, rfl, r_nil (Runs.of (pair_ok (n + 59) st pn) (r_tup (r_cons (r_loc l49 (r_cons (r_lit (r_nil ⟨(lbr rfl), c_sameT (sames2 rfl rfl) ⟨fun h => (by cases h), fun _ => ?_⟩⟩)))))))⟩)))))
 refine r_cmpB (r_callO (r_loc l43 ⟨_, _, rfl, rfl, r_nil (numbers_ok (n := n + 59) ((keep kS t1 tk0).trans fT) kE2 (Nat.lt_of_le_of_lt hw (by decide)) ?_)⟩))
 refine r_bi (r_cons (r_loc l59 (r_nil (b_sortL (listOf_ref ((push_ne tkn).trans fK)) hsl.1 ?_))))
 rw [isort_isort]
 refine c_sameL (listOf_ref ((push_ne (lts _)).trans push_f)) (listOf_ref push_f) (sames_refl dp_int) (Runs.pure ?_)
 have x1 : Ext st ((st.push (.list ((isort intLe (ks ++ W)).map .int))).push (.list ((isort intLe (ks ++ W)).map .int))) := ((Ext.refl st).push _).push _
 generalize (st.push (.list ((isort intLe (ks ++ W)).map .int))).push (.list ((isort intLe (ks ++ W)).map .int)) = s1 at x1 ⊢
 have kS1 := kS.trans x1.kept
 refine s_cons (due_loop (n := n + 40) (cs := (wlay hs S).2) l43 l60 ((keep kS1 t1 tk0).trans fT) kE (lift kS1 t1) (ne_low (ltl t1 bw) du0) (ltl du1 x1.1)
  (fun c hc C k => cells c hc _ fun j g1 g2 g3 _ g5 => k j g1 (Nat.zero_le _) (ltl g3 kS1.1) (ne_low g3 du0) ((kS1.2 j g3 (ne_up k1 g2)).trans g5)) ((x1.2 du du1).trans fD) (fun e he => (due e he).mono x1.kept2 fun c hc => hc) dz fun lc s2 l2 k2 => ?_)
 have kS2 := kS1.far k2 du0
 have m56 : lc 56 = some (.ref p) := (l2 56 (by decide)).trans l56
 have m37 : lc 37 = some (.lst hs) := (l2 37 (by decide)).trans l37
 have m43 : lc 43 = some (sh t r) := (l2 43 (by decide)).trans l43
 have m44 : lc 44 = some (rf pn) := (l2 44 (by decide)).trans l44
 have m50 : lc 50 = some (.ref bl) := (l2 50 (by decide)).trans l50
 have fB2 := (keep kS2 b1 bk).trans fB
 refine s_cons (s_ife (r_cmpB (r_comp (r_loc m50 ⟨_, listOf_ref fB2, ?_⟩))))
 refine bt_comp (n := n + 54) (es := es) (g := bt es) m43 ((keep kS2 t1 tk0).trans fT) kE (fun k hk => old k (mem_isort.mp hk)) (listOf_ref fB2) (fun k lc' => ⟨_, rfl, rfl⟩) hsl.2 ?_
 refine r_loc m50 (c_sameL (listOf_ref push_f) (listOf_ref ((push_ne (lift kS2 b1)).trans fB2)) (sames_refl dp_bt) (Runs.pure ?_))
 have x3 : Ext s2 (s2.push (.list ((isort intLe ks).map (bt es)))) := (Ext.refl s2).push _
 generalize s2.push (.list ((isort intLe ks).map (bt es))) = s3 at x3 ⊢
 have kS3 := kS2.trans x3.kept
 have hR : Rd t s3 es2 := ⟨(keep kS3 t1 tk0).trans fT, kE, lift kS3 t1⟩
 have hA : RootAt r s3 es2 .nil [] := ⟨lift kS3 r1, fun C k _ => k ((keep kS3 r1 rk).trans fR) rfl rfl⟩
 refine s_cons (s_ife (r_orB (r_cmpB (r_callF (r_cons (r_loc m43 (r_nil (read_ok (n := n + 36) hR hA HG.nil heads_nil (row_nil _ 0) List.nodup_nil (Nat.zero_le _) (Ext.refl s3) fun s4 x4 => ?_))))))))
 refine r_lst (r_nil ⟨Nat.zero_le _, c_sameL (xs := []) (ys := []) rfl (listOf_ref push_f) rfl ⟨fun h => (by cases h), fun _ => ?_⟩⟩)
 refine no_faults m43 hR hA HG.nil heads_nil (row_nil _ 0) (fun h => absurd rfl h) List.nodup_nil (Nat.zero_le _) (x4.push _) fun s5 x5 => Runs.pure ?_
 have kS5 := kS3.trans ((x4.push _).trans x5).kept
 exact segD hok hbd hpn m56 m37 m43 m44 (hp.same (keep kS5 p1 pk)) (lift kS5 p1) pr (lift kS5 t1) tr (lift kS5 r1) ((keep kS5 t1 tk0).trans fT) kE ((keep kS5 r1 rk).trans fR)
  fun c hc C k => cells c hc _ fun j g1 g2 g3 g4 g5 => k j g1 (ltl g3 kS5.1) g4 (ne_up r1 g2) ((kS5.2 j g3 (ne_up k1 g2)).trans g5)
theorem ll_2 {a b c : Nat} : a + (b + c + 1) = (b + 1) + (a + c) := by omega
theorem layR_len2 {f : List V → Int → (Int → Prop) → Lay} {d : Nat} {P : Int} (hf : ∀ ks a S, (f ks a S).2.length = (f ks a S).1.length) : ∀ (hs : List V) (as : List Int) (prev : Option Int) (S : Int → Prop), (layR f d P hs as prev S).2.length = hs.length + (layR f d P hs as prev S).1.length
 | [], _, _, _ => rfl
 | h :: hs, as, prev, S => by
  have h1 := layR_len2 (d := d) (P := P) hf hs as.tail (some (as.headD 0)) (addS S (f (kidsOf h) (as.headD 0) S).1)
  show (_ ++ _ :: _ : List (Int × Es1)).length = (hs.length + 1) + (_ ++ _ : List Int).length
  rw [lApp, lApp, List.length_cons, h1, hf]
  exact ll_2
theorem lay_len2 : ∀ (d : Nat) (hs : List V) (P : Int) (S : Int → Prop), (lay d hs P S).2.length = (lay d hs P S).1.length
 | 0, _, _, _ => rfl
 | d + 1, hs, P, S => by
  show (layR (lay d) d P hs (nums hs.length S) none (addS S (nums hs.length S))).2.length = (nums hs.length S ++ _ : List Int).length
  rw [lApp, nums_len, layR_len2 fun ks a S => lay_len2 d ks a S]
theorem head_sts {hs : List V} {as : List Int} : STs (headE hs as) := by
 unfold headE
 rw [kidE_O]
 have h := app_ok (a := [(DK.s "Type", V.obj 0 [.str "Outlines"])]) (m := 1) ⟨Nat.le_refl _, fun e he => by cases List.mem_singleton.mp he; exact ⟨⟨_, rfl⟩, tok_name _⟩⟩ (k3_ok (d := 3) (h := hv 0 0 true hs) (kas := as))
 exact ⟨Nat.lt_of_le_of_lt h.1 (by decide), h.2⟩
theorem Kept.far2 {p q : Nat} {a b c : St} (x : Kept p a b) (y : Kept2 p q b c) (h : a.n ≤ q) : Kept p a c := ⟨Nat.le_trans x.1 y.1, fun j hj hp => (y.2 j (ltl hj x.1) hp (Nat.ne_of_lt (ltl hj h))).trans (x.2 j hj hp)⟩
theorem due_head {n j0 b : Nat} {loc : Loc} {hs : List V} {as : List Int} {s : St} {Q : Fl × Loc → St → Prop} (hok : HeadsOk 3 hs) (hl : as.length = hs.length) (l61 : loc 61 = some (.lst (as.map .int))) (l37 : loc 37 = some (.lst hs)) (l11 : loc 11 = some (.ref j0)) (f0 : s.f j0 = .dict [(.s "Type", .obj 0 [.str "Outlines"])]) (j1 : j0 < s.n) (jb : b ≤ j0)
  (hQ : ∀ lc s' j, (∀ x, x ≠ 11 → lc x = loc x) → Ext s s' → lc 11 = some (.ref j) → b ≤ j → j < s'.n → s'.f j = .dict (headE hs as) → Q (.next, lc) s') :
  RS1 (callFn T (n + 20)) true loc (.ife (.cmp .le true (.bi .lenL (.cons (.loc 61) .nil)) (.lit (.int 0))) (.cons (.asg 11 (.dct [(.s "Type"), (.s "First"), (.s "Last"), (.s "Count")] (.cons (.new 0 (.cons (.lit (.str "Outlines")) .nil)) (.cons (.new 2 (.cons (.idx .lst (.loc 61) (.lit (.int 0))) (.cons (.lit (.int 0)) .nil))) (.cons (.new 2 (.cons (.idx .lst (.loc 61) (.neg (.lit (.int 1)))) (.cons (.lit (.int 0)) .nil))) (.cons (.callF 591 (.cons (.loc 37) .nil)) .nil)))))) .nil) .nil) s Q := by
 have hkz : (as.map V.int).length ≤ 4000 := by rw [List.length_map, hl]; exact leK (heads_len hok (by decide)) rfl
 refine s_ife (r_cmpB (r_bi (r_cons (r_loc l61 (r_nil (b_len (xs := as.map .int) rfl hkz (r_lit (c_le ?_))))))))
 rw [List.length_map]
 by_cases h0 : as = []
 ·rw [h0] at hQ ⊢
  exact Runs.pure (hQ loc s j0 (fun _ _ => rfl) (Ext.refl s) l11 jb j1 f0)
 ·have hp : 0 < (as.map V.int).length := by rw [List.length_map]; exact List.length_pos_iff.mpr h0
  rw [ndF (pos_int h0)]
  refine s_cons (s_asg (r_dct (by decide) (r_cons (r_new (r_cons (r_lit (r_nil (new_name fun s1 x1 => ?_))))))))
  refine r_cons (r_newrf (n := n + 19) (x := as.headD 0) (fun s2 x2 => ?_) fun R hR => r_idx (r_loc l61 (r_lit (i_lst rfl (idxAt_nat (k := 0) hp hkz) (head_int h0) hR))))
  refine r_cons (r_newrf (n := n + 19) (x := as.getLastD 0) (fun s3 x3 => ?_) fun R hR => r_idx (r_loc l61 (Runs.of rfl (i_lst rfl (idxAt_last hp hkz) (last_int h0) hR))))
  refine r_cons (r_callF (r_cons (r_loc l37 (r_nil (seen_ok4 (n := n + 16) hok (by decide) ?_)))))
  have x123 := (x1.trans x2).trans x3
  refine r_nil ⟨rfl, Runs.pure (hQ _ _ s3.n (fun x hx => if_neg hx) (x123.push _) rfl (Nat.le_trans jb (Nat.le_trans (Nat.le_of_lt j1) x123.1)) (lts _) ?_)⟩
  rw [push_f]
  unfold headE kidE
  rw [if_neg (fun e => h0 (List.isEmpty_iff.mp e))]; rfl
section
variable {hs : List V} {ks : List Int} {S : Int → Prop} {P : Int}
theorem w_len (hok : HeadsOk 3 hs) (hz : ks.length ≤ 40) : (ks ++ (wlay hs S).1).length ≤ 60 := by
 show (ks ++ (free S :: (lay 3 hs (free S) (addS S [free S])).1)).length ≤ 60
 rw [List.append_cons, lApp]; exact wlen hok hz
theorem i_len (hok : HeadsOk 3 hs) (hz : ks.length ≤ 40) : (isort intLe ks ++ [free S]).length + (lay 3 hs (free S) (addS S [free S])).1.length ≤ 60 := by
 have h := wlen (S := S) hok hz
 rw [lApp] at h ⊢
 rw [isort_len]; exact h
theorem l2_len (hok : HeadsOk 3 hs) : (lay 3 hs P S).2.length ≤ 15 := by rw [lay_len2]; exact lay_len 3 hs P S hok
theorem w_app {a : List Int} {b : List Int} {x : Int} : a ++ [x] ++ b = a ++ (x :: b) := by rw [List.append_assoc]; rfl
end
theorem ds_60 {a b : Nat} (h : a ≤ 0 + b) (hb : b ≤ 15) : a ≤ 15 := by omega
theorem segB2 {n : Nat} {loc : Loc} {hs : List V} {st : St} {p t r tk bl : Nat} {es : Es1} {ks : List Int} {S : Int → Prop} (hok : HeadsOk 3 hs) (l56 : loc 56 = some (.ref p)) (l37 : loc 37 = some (.lst hs)) (l43 : loc 43 = some (sh t r)) (l59 : loc 59 = some (.ref tk)) (l50 : loc 50 = some (.ref bl)) (hp : PoolAt p st) (p1 : p < tk) (t1 : t < tk) (r1 : r < tk) (k1 : tk < bl) (b1 : bl < st.n) (pt : p ≠ t) (pr : p ≠ r) (tr : t ≠ r)
  (fT : st.f t = .dict es) (fR : st.f r = .dict []) (fK : st.f tk = .list ((isort intLe ks).map .int)) (fB : st.f bl = .list ((isort intLe ks).map (bt es))) (hK : ky es = ks.map .i) (hS : ∀ x, x ∈ ks ↔ S x) (hB : Bd2 ks) (hz : ks.length ≤ 4) (vals : ∀ k ∈ ks, dGet es (.i k) = some (.tup [.int 0, .int (vInt es k)])) :
  RSs (callFn T (n + 60)) true loc (law 6) st fun q st' => Runs (retV false q.1) st' fun v _ => v.clo = true ∧ v = .bool true := by
 have tk2 : tk < st.n := Nat.lt_trans k1 b1
 have up : ∀ {j}, j < tk → j < st.n := fun h => Nat.lt_trans h tk2
 have hz4 : ks.length ≤ 40 := Nat.le_trans hz (by decide)
 have hil : (isort intLe ks).length = ks.length := isort_len
 refine s_cons (s_asg (r_callF (r_cons (r_loc l43 (r_cons (r_loc l37 (r_nil (write_ok (n := n + 36) hok fT hK hS hB hz4 (up t1) fun s3 es2 L => L _ fun a1 a2 a3 a4 a5 a6 => ?_))))))))
 refine s_cons (s_asg (r_dct (by decide) (r_nil ⟨rfl, ?_⟩)))
 have hBi : Bd2 (isort intLe ks) := fun x hx => by rw [hil]; exact hB x (mem_isort.mp hx)
 have hSi : ∀ x, x ∈ isort intLe ks ↔ S x := fun x => mem_isort.trans (hS x)
 have tk3 : tk < s3.n := ltl tk2 a4.1
 have fK4 : (s3.push (.dict ([].zip []))).f tk = .list ((isort intLe ks).map .int) := (push_ne tk3).trans ((a4.2 tk tk2 (ne_up t1 (Nat.le_refl tk))).trans fK)
 have fD4 : (s3.push (.dict ([].zip []))).f s3.n = .dict [] := push_f
 have k4 : Kept tk s3 (s3.push (.dict ([].zip []))) := (Kept.refl _ s3).push
 have n4 : s3.n < (s3.push (.dict ([].zip []))).n := lts _
 show RSs _ _ _ _ (s3.push (.dict ([].zip []))) _
 generalize s3.push (.dict ([].zip [])) = s4 at fK4 fD4 k4 n4 ⊢
 have dk : s3.n ≠ tk := ne_up tk3 (Nat.le_refl _)
 refine s_cons (s_asg (r_idx (r_callF (r_cons (r_loc l59 (r_cons (r_lit (r_nil (free_ok (n := n + 59) (c := 1) fK4 hSi hBi (by rw [hil]; exact Nat.le_trans (Nat.add_le_add_right hz 1) (by decide)) (Nat.lt_trans tk3 n4) fun s5 c1 c2 c3 => ?_)))))))))
 refine r_lit (i_int (as := nums 1 S) (k := 0) rfl rfl rfl ((lbr rfl)) ?_)
 refine s_cons (s_asg (r_callF (r_cons (r_loc l37 (r_cons (r_loc rfl (r_cons (r_loc l59 (r_cons (r_loc rfl (r_nil ?_)))))))))))
 refine ll3 (n + 37) tk s3.n hs (free S) s5 [] (isort intLe ks ++ [free S]) (addS S [free S]) _ hok c1 ((c2.2 s3.n n4 dk).trans fD4) (fun e he => absurd he nmn) (mem_snoc hSi) c3 (i_len hok hz4) (Nat.le_trans (Nat.le_of_eq (Nat.zero_add _)) (Nat.le_trans (l2_len hok) (by decide))) (ltl (Nat.lt_trans tk3 n4) c2.1) (ltl n4 c2.1) dk.symm
  fun s6 L6 => L6 _ fun ds d1 d2 d3 d4 d5 d6 => ?_
 have k6 : Kept tk s3 s6 := (k4.trans c2).far2 d4 (Nat.le_refl _)
 have n6 : s3.n < s6.n := ltl (ltl n4 c2.1) d4.1
 have dl : ds.length ≤ 15 := ds_60 d5 (l2_len hok)
 have hkd : ∀ e ∈ ds, e.1.kind = 1 := LL.kinds (ds := []) (fun e he => absurd he nmn) d6
 refine s_cons (s_asg (r_dct (by decide) (r_cons (r_new (r_cons (r_lit (r_nil (new_name fun s7 x7 => r_nil ⟨rfl, ?_⟩))))))))
 refine s_cons (due_head (n := n + 40) (loc := ((((loc.put 44 (rf (free S))).put 60 (.ref s3.n)).put 49 (.int (free S))).put 61 (.lst ((nums hs.length (addS S [free S])).map .int))).put 11 (.ref s7.n)) (hs := hs) (as := nums hs.length (addS S [free S])) (b := s6.n) hok (nums_len _ _) rfl l37 rfl push_f (lts _) x7.1 fun lc s9 j l9 x9 l11 j1 j2 f9 => ?_)
 have x69 := (x7.push (.dict ([.s "Type"].zip [.obj 0 [.str "Outlines"]]))).trans x9
 have m60 : lc 60 = some (.ref s3.n) := l9 60 (by decide)
 have m49 : lc 49 = some (.int (free S)) := l9 49 (by decide)
 have tk6 : tk < s6.n := Nat.lt_trans tk3 n6
 refine s_cons (s_asgIdx (r_loc l11 (r_loc m60 (r_loc m49 (x_dct ((x69.2 s3.n n6).trans d2) rfl (kind_of hkd) (leK dl rfl) ?_)))))
 have k9 : Kept tk s3 (s9.set s3.n (.dict (dSet ds (.i (free S)) (.ref j)))) := (k6.trans x69.kept).new (Nat.le_refl _)
 have k69 : Kept2 tk s3.n s6 (s9.set s3.n (.dict (dSet ds (.i (free S)) (.ref j)))) := ⟨x69.1, fun y hy h1 h2 => (set_ne h2).trans (x69.2 y hy)⟩
 have jd : j ≠ s3.n := ne_up n6 j1
 refine segC (n := n) (sw := s3) (b := st.n) (es := es) (ks := ks) (S := S) (pn := free S) hok (bnd_of hS hB) rfl ((l9 56 (by decide)).trans l56) ((l9 37 (by decide)).trans l37) ((l9 43 (by decide)).trans l43) (l9 44 (by decide)) ((l9 59 (by decide)).trans l59) ((l9 50 (by decide)).trans l50) m60 m49
  (hp.same (a4.2 p (up p1) pt)) (up p1) (up t1) (up r1) tk2 b1 a4.1 pr tr (Nat.ne_of_lt p1) (Nat.ne_of_lt t1) (Nat.ne_of_lt r1) (Nat.ne_of_gt k1) a1 ((a4.2 r (up r1) tr.symm).trans fR) ((a4.2 bl b1 (ne_up (Nat.lt_trans t1 k1) (Nat.le_refl _))).trans fB) a2 (w_len hok hz4) (fun k hk => (a5 k hk nmn).trans (vals k hk)) a6 k9 ?_ set_self (Nat.le_refl _) (ltl n6 x69.1) (fun e he => ?_) (Nat.le_trans dSet_len (Nat.le_trans (Nat.succ_le_succ dl) (by decide)))
 ·refine (set_ne dk.symm).trans ((x69.2 _ tk6).trans (d1.trans ?_))
  rw [w_app]; rfl
 ·rcases dSet_mem he with h | h
  ·exact ((d6 e h).resolve_left nmn).mono k69 fun c hc => List.mem_append_left _ hc
  ·exact fun C k => k (free S, headE hs (nums hs.length (addS S [free S]))) j _ (List.mem_append_right _ (List.mem_singleton.mpr rfl)) h j2 (ne_up tk6 j1) jd ((set_ne jd).trans f9) rfl head_sts head_sts
theorem segB {n : Nat} {loc : Loc} {hs : List V} {st : St} {p t r : Nat} {es : Es1} {ks : List Int} (hok : HeadsOk 3 hs) (l56 : loc 56 = some (.ref p)) (l37 : loc 37 = some (.lst hs)) (l43 : loc 43 = some (sh t r)) (hp : PoolAt p st) (p1 : p < st.n) (t1 : t < st.n) (r1 : r < st.n) (pt : p ≠ t) (pr : p ≠ r) (tr : t ≠ r)
  (fT : st.f t = .dict es) (fR : st.f r = .dict []) (hK : ky es = ks.map .i) (hB : Bd2 ks) (hz : ks.length ≤ 4) (vals : ∀ k ∈ ks, dGet es (.i k) = some (.tup [.int 0, .int (vInt es k)])) :
  RSs (callFn T (n + 60)) true loc (law 4) st fun q st' => Runs (retV false q.1) st' fun v _ => v.clo = true ∧ v = .bool true := by
 have hil : (isort intLe ks).length ≤ 60 := by rw [isort_len]; exact Nat.le_trans hz (by decide)
 refine s_cons (s_asg (r_callO (r_loc l43 ⟨_, _, rfl, rfl, r_nil (numbers_ok (n := n + 59) fT hK (Nat.lt_of_le_of_lt hz (by decide)) ?_)⟩)))
 refine s_cons (s_asg (r_comp (r_loc rfl ⟨_, listOf_ref push_f, ?_⟩)))
 refine bt_comp (n := n + 54) (es := es) (g := V.int) l43 ((push_ne t1).trans fT) (kinds_ky hK) (fun k hk => vals k (mem_isort.mp hk)) (listOf_ref push_f) (fun k lc' => ⟨_, rfl, rfl⟩) hil ?_
 have x2 : Ext st ((st.push (.list ((isort intLe ks).map .int))).push (.list ((isort intLe ks).map (bt es)))) := ((Ext.refl st).push _).push _
 exact segB2 (n := n) (S := (· ∈ ks)) hok l56 l37 l43 rfl rfl (hp.same (x2.2 p p1)) p1 t1 r1 (lts _) (lts _) pt pr tr ((x2.2 t t1).trans fT) ((x2.2 r r1).trans fR) ((push_ne (lts _)).trans push_f) push_f hK (fun x => Iff.rfl) hB hz vals
theorem new_shelf {n : Nat} {st : St} {Q : V → St → Prop} (h : ∀ st' t r, Ext st st' → st.n ≤ t → t < st'.n → st.n ≤ r → r < st'.n → t ≠ r → st'.f t = .dict [] → st'.f r = .dict [] → Q (sh t r) st') : Runs (newV (callFn T (n + 1) true) 4 []) st Q := by
 refine v_new (by decide) (c_open (fn := f292) rfl rfl rfl ?_)
 refine s_cons (s_asgAttr (r_ite (Runs.of rfl (r_dct (by decide) (r_nil ⟨rfl, r_loc rfl (a_set (c := 4) (fs := []) ((push_ne (lts _)).trans push_f) rfl ?_)⟩)))))
 have x1 : Ext st (((st.push (.inst 4 [])).push (.dict ([].zip []))).set st.n (.inst 4 ([] ++ [.ref (st.push (.inst 4 [])).n]))) := (((Ext.refl st).push _).push _).set (Nat.le_refl _) _
 have f1 : (((st.push (.inst 4 [])).push (.dict ([].zip []))).set st.n (.inst 4 ([] ++ [.ref (st.push (.inst 4 [])).n]))).f st.n = .inst 4 [.ref (st.n + 1)] := set_self
 have g1 : (((st.push (.inst 4 [])).push (.dict ([].zip []))).set st.n (.inst 4 ([] ++ [.ref (st.push (.inst 4 [])).n]))).f (st.n + 1) = .dict [] := (set_ne (Nat.succ_ne_self _)).trans push_f
 have n1 : (((st.push (.inst 4 [])).push (.dict ([].zip []))).set st.n (.inst 4 ([] ++ [.ref (st.push (.inst 4 [])).n]))).n = st.n + 2 := rfl
 generalize ((st.push (.inst 4 [])).push (.dict ([].zip []))).set st.n (.inst 4 ([] ++ [.ref (st.push (.inst 4 [])).n])) = s1 at x1 f1 g1 n1 ⊢
 refine s_cons (s_asgAttr (r_ite (Runs.of rfl (r_dct (by decide) (r_nil ⟨rfl, r_loc rfl (a_set (fs := [.ref (st.n + 1)]) ((push_ne (by omega)).trans f1) rfl ?_)⟩)))))
 refine Runs.pure (Runs.pure ⟨rfl, _, set_self, rfl, ?_⟩)
 refine h _ (st.n + 1) s1.n (((x1.push _).set (Nat.le_refl _) _).set (Nat.le_refl _) _) (Nat.le_succ _) ?_ x1.1 (lts _) (by omega) ((set_ne (by omega)).trans ((set_ne (by omega)).trans ((push_ne (by omega)).trans g1))) ((set_ne (by omega)).trans ((set_ne (by omega)).trans push_f))
 show st.n + 1 < s1.n + 1
 omega
theorem vInt_of {es : Es1} {k x : Int} (h : dGet es (.i k) = some (.tup [.int 0, .int x])) : vInt es k = x := by unfold vInt; rw [h]; rfl
theorem p_24 {v : V} {xs : List V} {st : St} {Q : V → St → Prop} (h : listOf st v = some xs) (hz : xs.length ≤ 4000) (hQ : Q (.ref st.n) (st.push (.list (xs.take 24)))) : Runs (preV v (.int 24)) st Q :=
 (Runs.onO rfl (Runs.onP (by decide) (r_onL h (Runs.onP (Nat.le_trans hz (by decide)) ⟨_, _, rfl, hQ⟩))) : Runs (onO (V.int? (.int 24)) fun k => onP (0 ≤ k ∧ k < 1000) (onL v fun xs => onP (xs.length ≤ 10000000) (mPush (.list (xs.take k.toNat))))) st Q)
theorem r_pool {n : Nat} {loc : Loc} {st : St} {xs : List Int} {Q : V → St → Prop} (l66 : loc 66 = some (.lst (xs.map .int))) (hz : xs.length ≤ 4000) (hQ : ∀ s p, p < s.n → PoolAt p s → Q (.ref p) s) :
  RV1 (callFn T n true) true loc Loc.none (.comp .lst (.bin .mod (.bi .abs (.cons (.loc 7) .nil)) (.bin .pow (.lit (.int 10)) (.lit (.int 80)))) [7] (.pre (.loc 66) (.lit (.int 24))) none) st Q := by
 refine r_comp (Runs.bind (r_loc l66 (Runs.bind (r_lit (p_24 rfl (by rw [List.length_map]; exact hz) ⟨_, listOf_ref push_f, ?_⟩)))))
 rw [← List.map_take]
 have hl : (xs.take 24).length ≤ 24 := by rw [List.length_take]; exact Nat.min_le_left ..
 generalize xs.take 24 = zs at hl
 refine comp_lst (xs := zs.map .int) (fun r acc s => s = st.push (.list (zs.map .int)) ∧ ∃ (a : List Int) (b : List Int), acc = a.map .int ∧ r = b.map .int ∧ a.length + b.length = zs.length) (fun _ _ s i h => by rw [h.1]; exact congrArg (Option.map _) (listOf_ref push_f)) ?_ ?_ (zs.map .int) fuelW 0 Loc.none [] _ rfl (by rw [List.length_map]; exact fuel_of hl rfl) ⟨rfl, [], zs, rfl, rfl, Nat.zero_add _⟩
 ·intro u r acc lc s R h hK
  refine h.2.elim fun a h2 => h2.elim fun b h2 => ?_
  cases b with
  | nil => exact absurd h2.2.1 (List.cons_ne_nil _ _)
  | cons x b =>
   have e2 := List.cons.inj h2.2.1
   have hpos : (0 : Int) < 10 ^ 80 := by decide
   rw [e2.1]
   refine ⟨_, rfl, Runs.pure ⟨rfl, r_bin (r_bi (r_cons (r_loc rfl (r_nil (Runs.onO rfl (Runs.onO rfl (Runs.pure (r_bin (r_lit (r_lit (Runs.onO rfl (Runs.onO rfl (Runs.onP ⟨rfl, rfl⟩ (Runs.pure (Runs.onO rfl (Runs.onO rfl (Runs.onP hpos (Runs.pure ?_))))))))))))))))))⟩⟩
   refine hK _ _ ⟨h.1, a ++ [(x.natAbs : Int).fmod (10 ^ 80)], b, by rw [h2.1, List.map_append]; rfl, e2.2, ?_⟩
   rw [lApp, ← h2.2.2]
   exact Nat.succ_add_eq_add_succ ..
 ·intro acc s h
  refine h.2.elim fun a h2 => h2.elim fun b h2 => ?_
  cases b with
  | cons x b => exact absurd h2.2.1.symm (List.cons_ne_nil _ _)
  | nil => exact hQ _ s.n (lts _) ⟨a, by rw [← h2.1]; exact push_f, by rw [show a.length = zs.length from h2.2.2]; exact hl⟩
noncomputable def FF (p t r : Nat) (hs : List V) (n0 i : Nat) (lc : Loc) (s : St) : Prop := ∀ C : Prop, (∀ (es : Es1) (ks : List Int), lc 56 = some (.ref p) → lc 37 = some (.lst hs) → lc 43 = some (sh t r) → PoolAt p s → n0 ≤ s.n → s.f t = .dict es → s.f r = .dict [] → ky es = ks.map .i → ks.length ≤ i → (∀ k ∈ ks, k ≤ 9) →
 (∀ k ∈ ks, dGet es (.i k) = some (.tup [.int 0, .int (vInt es k)])) → C) → C
theorem fill_set {es : Es1} {ks : List Int} {a x : Int} {i : Nat} {C : Prop} (ha : a ≤ 9) (hK : ky es = ks.map .i) (hz : ks.length ≤ i) (h9 : ∀ k ∈ ks, k ≤ 9) (vals : ∀ k ∈ ks, dGet es (.i k) = some (.tup [.int 0, .int (vInt es k)]))
  (k : ∀ ks' : List Int, ky (dSet es (.i a) (.tup [.int 0, .int x])) = ks'.map .i → ks'.length ≤ i + 1 → (∀ k ∈ ks', k ≤ 9) → (∀ k ∈ ks', dGet (dSet es (.i a) (.tup [.int 0, .int x])) (.i k) = some (.tup [.int 0, .int (vInt (dSet es (.i a) (.tup [.int 0, .int x])) k)])) → C) : C := by
 have hv : ∀ k : Int, (k = a ∨ k ∈ ks) → dGet (dSet es (.i a) (.tup [.int 0, .int x])) (.i k) = some (.tup [.int 0, .int (vInt (dSet es (.i a) (.tup [.int 0, .int x])) k)]) := fun k hk => by
  by_cases e : k = a
  ·have g : dGet (dSet es (.i a) (.tup [.int 0, .int x])) (.i k) = some (.tup [.int 0, .int x]) := by rw [dSet_get, if_pos (congrArg DK.i e)]
   rw [vInt_of g]; exact g
  ·have g : dGet (dSet es (.i a) (.tup [.int 0, .int x])) (.i k) = some (.tup [.int 0, .int (vInt es k)]) := by rw [dSet_get, if_neg fun h => e (DK.i.inj h)]; exact vals k (hk.resolve_left e)
   rw [vInt_of g]; exact g
 have h9' : ∀ k : Int, (k = a ∨ k ∈ ks) → k ≤ 9 := fun k hk => hk.elim (fun e => e ▸ ha) (h9 k)
 by_cases hm : a ∈ ks
 ·exact k ks (by rw [dSet_old ((mem_ky hK).mpr hm), upd_ky]; exact hK) (Nat.le_succ_of_le hz) (fun k hk => h9' k (.inr hk)) fun k hk => hv k (.inr hk)
 ·have hm2 : ∀ k ∈ ks ++ [a], k = a ∨ k ∈ ks := fun k hk => (List.mem_append.mp hk).elim .inr fun h => .inl (List.mem_singleton.mp h)
  exact k (ks ++ [a]) (by rw [dSet_new fun h => hm ((mem_ky hK).mp h)]; exact ky_snoc hK) (by rw [lApp]; exact Nat.succ_le_succ hz) (fun k hk => h9' k (hm2 k hk)) fun k hk => hv k (hm2 k hk)
theorem d9 {d : Int} (h : d < 9) : 1 + d ≤ 9 := by omega
theorem c4 {c : Nat} (h : (c : Int) < 5) : c ≤ 4 := by omega
theorem r_fill {n p t r : Nat} {loc : Loc} {st : St} {hs : List V} {Q : Fl × Loc → St → Prop} (l56 : loc 56 = some (.ref p)) (l37 : loc 37 = some (.lst hs)) (l43 : loc 43 = some (sh t r)) (hp : PoolAt p st) (pt : p ≠ t) (pr : p ≠ r) (tr : t ≠ r) (fT : st.f t = .dict []) (fR : st.f r = .dict [])
  (h : ∀ c lc s, c ≤ 4 → FF p t r hs st.n c lc s → Q (.next, lc) s) :
  RS1 (callFn T (n + 60)) true loc (.for1 .rng 57 (.bi .range1 (.cons (.callF 579 (.cons (.loc 56) (.cons (.lit (.int 5)) .nil))) .nil)) (.cons (.ex (.callO 4 3 (.loc 43) (.cons (.bin .add (.lit (.int 1)) (.callF 579 (.cons (.loc 56) (.cons (.lit (.int 9)) .nil)))) (.cons (.lit (.int 0)) (.cons (.loc 57) .nil))))) .nil)) st Q := by
 refine s_for (r_bi (r_cons (r_callF (r_cons (r_loc l56 (r_cons (r_lit (r_nil (take_ok (n := n + 59) hp (by decide) (by decide) fun c s1 c0 c1 o1 hp1 => ?_)))))))))
 refine (Int.eq_ofNat_of_zero_le c0).elim fun c e => ?_
 rw [e] at c1 ⊢
 have hc := c4 c1
 refine r_nil (b_range (l_rng (leK hc rfl) ?_))
 refine for_rng (c := c) (FF p t r hs st.n) (fun i lc s R hi I hK => I _ fun es ks m56 m37 m43 hp2 hn fT2 fR2 hky hz h9 vals => ?_) (fun lc s I => h c lc s hc I) c fuelW 0 _ s1 (Nat.zero_add _) (fuel_of hc rfl)
  (fun C k => k [] [] l56 l37 l43 hp1 (Nat.le_of_eq o1.1.symm) ((o1.2 t pt.symm).trans fT) ((o1.2 r pr.symm).trans fR) rfl (Nat.le_refl _) (fun k hk => absurd hk nmn) fun k hk => absurd hk nmn)
 refine s_cons (s_ex (r_callO (r_loc m43 ⟨_, _, rfl, rfl, r_cons (r_bin (r_lit (r_callF (r_cons (r_loc m56 (r_cons (r_lit (r_nil (take_ok (n := n + 59) hp2 (by decide) (by decide) fun d s3 d0 d1 o3 hp3 => ?_)))))))))⟩)))
 refine o_add (r_cons (r_lit (r_cons (r_loc rfl (r_nil (put_ok (n := n + 59) ((o3.2 t pt.symm).trans fT2) (kind_ky hky) (by rw [len_ky hky]; exact leK (Nat.le_trans hz (Nat.le_of_lt (ltl hi hc))) rfl) ?_))))))
 exact Runs.pure (fill_set (a := 1 + d) (x := i) (d9 d1) hky hz h9 vals fun ks' g1 g2 g3 g4 => hK _ _ fun C k => k _ ks' m56 m37 m43 (hp3.same (set_ne pt)) (Nat.le_trans hn (Nat.le_of_eq o3.1.symm)) set_self ((set_ne tr.symm).trans ((o3.2 r pr.symm).trans fR2)) g1 g2 g3 g4)
theorem law_true {n : Nat} {xs : List Int} (hz : xs.length ≤ 4000) : Runs (callFn T (n + 61) true 631 [.lst (xs.map .int)]) st0 fun v st' => v = .bool true ∧ st' = st0 := by
 refine c_clo (fn := f631) rfl ?_ rfl ?_
 ·show (clos (xs.map .int) && true) = true
  rw [clos_all fun v hv => by obtain ⟨x, _, rfl⟩ := List.mem_map.mp hv; rfl]; rfl
 refine Runs.mono (Q := fun q st' => Runs (retV false q.1) st' fun v _ => v.clo = true ∧ v = .bool true) ?_ fun q s h => Runs.mono (m := retV false q.1) h fun v _ h => ⟨h.1, h.2, rfl⟩
 refine s_cons (s_asg (r_pool rfl hz fun s1 p p1 hp1 => ?_))
 refine s_cons (s_asg (r_callF (r_cons (r_loc rfl (r_cons (r_lit (r_nil (heads3 (n := n + 55) hp1 p1 fun hs s2 hok hp2 k2 => ?_))))))))
 have p2 := ltl p1 k2.1
 refine s_cons (s_asg (r_new (r_nil (new_shelf (n := n + 59) fun s3 t r x3 a1 a2 b1 b2 hne f1 f2 => ?_))))
 have p3 := ltl p2 x3.1
 refine s_cons (r_fill (n := n) rfl rfl rfl (hp2.ext x3 p2) (ne_low p2 a1) (ne_low p2 b1) hne f1 f2 fun c lc s hc F => F _ fun es ks m56 m37 m43 hp4 hn fT fR hK hz h9 vals => ?_)
 have ub : ∀ {j}, j < s3.n → j < s.n := fun h => ltl h hn
 exact segB hok m56 m37 m43 hp4 (ub p3) (ub a2) (ub b2) (ne_low p2 a1) (ne_low p2 b1) hne fT fR hK (fun k hk => Int.le_trans (h9 k hk) (Int.le_add_of_nonneg_right (Int.natCast_nonneg _))) (Nat.le_trans hz hc) vals
end Mine
end
section
open PySem PySem.W PyProof.Rows
namespace Mine
noncomputable def qV : Program := view PySem.Challenge.pw_nn0140_01 [55]
noncomputable def looseL : List Str := (["_wall", "PaperError", "TreeFault", "Decimal", "sign_text", "MOST_HOPS", "Name", "String", "Stream", "Reference", "kind_of", "told_plain", "told", "told_objects", "Lookup", "Shelf", "MOST_DEEP", "MARK", "UNKNOWN", "Heading", "accent_signs", "mark_signs", "sign_of", "octet_of", "units_of", "text_of_units", "octets_of", "text_of", "visible_count", "lay_items", "link_kids", "write_outline", "target_of", "title_of", "count_of", "headings_from", "outline_root", "read_outline", "is_place", "OutlineLook", "outline_faults", "_law_titles", "_law_take", "_law_headings", "_law_seen", "_law_free", "_law_lay", "_law_alike", "_law_targets_right", "_law_chain_right"] : List String).map Str.ofString
noncomputable def topRunT (stp : SharedT → Thread → Option (SharedT × Thread)) (ok : Thread → Bool) : Nat → SharedT → Thread → Option SharedT
 | 0, _, _ => none
 | n + 1, s, t => match through t with
  | true => some s
  | false => match ok t with
   | false => none
   | true => match stp s t with
    | some (s', t') => topRunT stp ok n s' t'
    | none => none
theorem topRunT_of {tb : String → Option Builtin} {p : Program} {w : World} {n₀ : Nat} {ann : Option Value} : ∀ {n : Nat} {s s' : SharedT} {t : Thread}, topRunT (stepT (denote tb) p w) (stepOk n₀ ann) n s t = some s' → topRun tb p w n₀ ann n s.abs t = some s'.abs
 | 0, _, _, _, h => by cases h
 | n + 1, s, s', t, h => by
  unfold topRunT at h
  unfold topRun
  cases he : through t with
  | true => rw [he] at h; cases h; rfl
  | false =>
   rw [he] at h
   cases hk : stepOk n₀ ann t with
   | false => rw [hk] at h; cases h
   | true =>
    rw [hk] at h
    cases hs : stepT (denote tb) p w s t with
    | none => rw [hs] at h; cases h
    | some r => obtain ⟨s₂, t₂⟩ := r; rw [hs] at h; rw [stepT_spec hs]; exact topRunT_of h
noncomputable def treeOf : List Obj → BT → Nat → Option BT
 | [], t, _ => some t
 | o :: r, t, n => match ((t.ins n o).get n).isSome with
  | true => treeOf r (t.ins n o) (n + 1)
  | false => none
theorem treeOf_of {life : Life} : ∀ {l : List Obj} {t t' : BT} {n : Nat}, treeOf l t n = some t' → absHeap t' (n + l.length) life = ⟨(absHeap t n life).objs ++ l.toArray, life⟩
 | [], t, t', n, h => by cases h; simp [absHeap]
 | o :: r, t, t', n, h => by
  unfold treeOf at h
  split at h
  ·rename_i hg
   have := treeOf_of (life := life) h
   rw [absHeap_ins hg] at this
   rw [List.length_cons, show n + (r.length + 1) = n + 1 + r.length from by omega, this]
   unfold Heap.push
   simp
  ·cases h
noncomputable def lookAll {α : Type} (p : Program) (N : Nat) (stp : SharedT → Thread → Option (SharedT × Thread)) (ok : Thread → Bool) (seen : Shared → α) (h : Heap) (os : OsState) : Option (Bool × α) :=
 match h.isNs mainGlobals, treeOf h.objs.toList .nil 0 with
 | true, some T => (topRunT stp ok N ⟨T, h.objs.size, h.life, #[], boot_drawn, boot_toks, os⟩ (topStub p)).map fun s =>
   ((staticsOk (importedModules p.main.body) h s.abs.heap && namesBound p s.abs.heap && gensDone s.abs && laidKept h s.abs.heap), seen s.abs)
 | _, _ => none
theorem left_of {p q : Program} {loose : List Str} {Xt : Shared → Bool} {α : Type} {Yf : Shared → α} {Ya : World → α} {N : Nat} {g0 : Bool}
  (e : opening p = plainProg p.main.scope.names) (hN : Nat.ble 600 N = true) (f : ∀ s, fenceModules? p s = some s)
  (h : ∀ (w : World) (os : OsState), lookAll p N (stepT (denote treeTable) p w) (stepOk (boot_heap w.params).objs.size ((boot_heap w.params).nsMap mainGlobals "__annotations__")) (fun s => (openSeen q loose (importedModules p.main.body) Xt g0 s, Yf s)) (boot_heap w.params) os = some (true, openGood q loose, Ya w)) :
  LeftO p q loose Xt Yf Ya N g0 := fun w => by
 obtain ⟨⟨hp, gs, d, k, os⟩, e1, e2⟩ := mapS (boot_open e hN f w)
 obtain ⟨rfl, rfl, rfl, rfl⟩ : hp = boot_heap w.params ∧ gs = #[] ∧ d = boot_drawn ∧ k = boot_toks := by simpa using e2
 have h := h w os
 unfold lookAll at h
 split at h
 case h_2 => cases h
 rename_i T hns hT
 obtain ⟨s', hr, hs⟩ := mapS h
 have hr' := topRunT_of hr
 have e3 : absHeap T (boot_heap w.params).objs.size (boot_heap w.params).life = boot_heap w.params := by
  have := treeOf_of (life := (boot_heap w.params).life) hT
  rw [Nat.zero_add, Array.length_toList] at this
  rw [this]
  cases boot_heap w.params
  simp [absHeap, BT.list]
 have hr2 : topRun treeTable p w (boot_heap w.params).objs.size ((boot_heap w.params).nsMap mainGlobals "__annotations__") N ⟨boot_heap w.params, #[], boot_drawn, boot_toks, os⟩ (topStub p) = some s'.abs := by
  have := hr'
  unfold SharedT.abs at this
  dsimp only at this
  rw [e3] at this
  exact this
 simp only [Prod.mk.injEq] at hs
 obtain ⟨h1, h2, h3⟩ := hs
 unfold openEnds
 rw [e1]
 show (topFrom treeTable p w N _).map _ = _
 have t : topFrom treeTable p w N ⟨boot_heap w.params, #[], boot_drawn, boot_toks, os⟩ = some s'.abs := by
  unfold topFrom
  dsimp only
  rw [hns, hr2]
  show (match staticsOk (importedModules p.main.body) (boot_heap w.params) s'.abs.heap && namesBound p s'.abs.heap && gensDone s'.abs && laidKept (boot_heap w.params) s'.abs.heap with | true => _ | false => _) = _
  rw [h1]
 rw [t]
 exact congrArg some (Prod.ext h2 h3)
theorem ints_of : ∀ {ds : List WData}, WShape.hasItems [] ds .int = true → ∃ xs : List Int, ds = xs.map .int
 | [], _ => ⟨[], rfl⟩
 | d :: r, h => by
  obtain ⟨h1, h2⟩ := andS (show (WShape.has [] d .int && WShape.hasItems [] r .int) = true from h)
  obtain ⟨xs, rfl⟩ := ints_of h2
  cases d with
  | int i => exact ⟨i :: xs, rfl⟩
  | _ => cases (show false = true from h1)
theorem args_of {args : List WData} (h : WShape.hasAll [] args [.list .int] = true) : ∃ xs : List Int, args = [.list (xs.map .int)] := by
 cases args with
 | nil => cases h
 | cons d r =>
  obtain ⟨h1, h2⟩ := andS (show (WShape.has [] d (.list .int) && WShape.hasAll [] r []) = true from h)
  cases r with
  | cons => cases h2
  | nil =>
   cases d with
   | list ds =>
    have h1 : (WShape.hasItems [] ds .int || false) = true := h1
    obtain ⟨xs, rfl⟩ := ints_of ((Bool.or_false _).symm.trans h1)
    exact ⟨xs, rfl⟩
   | _ => cases (show false = true from h1)
theorem len_of {xs : List Int} (h : (PySem.Challenge.rw_nn0140_01.pre).holds [] { args := [.list (xs.map .int)] } = true) : xs.length ≤ 63 := by
 refine Classical.byContradiction fun hn => ?_
 have h0 : decide ((63 : Int) < ((xs.map WData.int).length : Int)) = true := decide_eq_true (by rw [List.length_map]; omega)
 unfold PySem.Challenge.rw_nn0140_01 at h
 simp only [OpenLaw.pre, WTm.holds, WTm.value, List.getElem?_cons_zero] at h
 rw [show less? (WData.int ((63 : Nat) : Int)) (WData.int ((xs.map WData.int).length : Int)) = some true from congrArg some h0] at h
 cases h
end Mine
end
section
open PySem PySem.W PyProof.Rows PySem.Calls
namespace Mine
noncomputable def fragL : List Obj → List Nat → Nat → Frag
 | [], _, _ => []
 | o :: os, sel, n => match sel with
  | [] => []
  | a :: r => match Nat.beq a n with
   | true => match o.alive with
    | true => (a, o) :: fragL os r (n + 1)
    | false => fragL os r (n + 1)
   | false => fragL os (a :: r) (n + 1)
theorem fragL_at : ∀ {os : List Obj} {sel : List Nat} {n : Nat} {a : Nat} {o : Obj}, (a, o) ∈ fragL os sel n → ∃ i, a = n + i ∧ os[i]? = some o ∧ o.alive = true
 | [], _, _, _, _, h => absurd h nmn
 | o' :: os, sel, n, a, o, h => by
  have up : (∃ i, a = n + 1 + i ∧ os[i]? = some o ∧ o.alive = true) → ∃ i, a = n + i ∧ (o' :: os)[i]? = some o ∧ o.alive = true := fun h => h.elim fun i h => ⟨i + 1, h.1.trans (Nat.succ_add_eq_add_succ n i), h.2.1, h.2.2⟩
  unfold fragL at h
  cases sel with
  | nil => exact absurd h nmn
  | cons b r =>
   cases e : Nat.beq b n with
   | false => simp only [e] at h; exact up (fragL_at h)
   | true =>
    cases e2 : o'.alive with
    | false => simp only [e, e2] at h; exact up (fragL_at h)
    | true =>
     simp only [e, e2] at h
     rcases List.mem_cons.mp h with h | h
     ·have h := Prod.mk.inj h
      exact ⟨0, h.1.trans (Nat.eq_of_beq_eq_true e), congrArg some h.2.symm, by rw [h.2]; exact e2⟩
     ·exact up (fragL_at h)
noncomputable def selL : List Nat := [0, 1, 2, 3, 4, 5, 6, 7, 29, 35, 36, 45, 46, 58, 59, 154, 155, 179, 180, 182, 183, 195, 201, 202, 204, 205, 225, 226, 243, 244, 250, 251, 253, 254, 264, 265, 271, 272, 276, 277, 285, 291, 292, 298, 299, 305, 306, 308, 309, 326, 327, 333, 334, 347, 348, 354, 355, 362, 363, 373, 374, 380, 381, 383, 384, 394, 395, 401, 402, 408, 409, 415, 416, 422, 423, 429, 430, 434, 435, 439, 440, 446, 447, 451, 452, 458, 459, 465, 466, 472, 473, 479, 480, 486, 487, 493, 494, 500, 501, 507, 508, 514, 515, 528, 529, 535, 536, 542, 543, 549, 550, 556, 557, 559, 560, 570, 571, 572, 578, 579, 585, 586, 590, 591, 597, 598, 604, 605, 611, 612, 618, 619, 625, 626, 630, 631]
noncomputable def fragOf (h : Heap) : Frag := fragL h.objs.toList selL 0
theorem mem_look {β : Type} {a : Nat} {b : β} : ∀ {l : List (Nat × β)}, l.lookup a = some b → (a, b) ∈ l
 | [], h => nomatch h
 | (k, v) :: l, h => by
  rw [List.lookup_cons] at h
  cases e : a == k with
  | true => rw [e] at h; cases h; rw [beq_iff_eq.mp e]; exact List.mem_cons_self ..
  | false => rw [e] at h; exact List.mem_cons_of_mem _ (mem_look h)
theorem fragOf_in (h : Heap) : (fragOf h).In h := fun a o e => (fragL_at (mem_look e)).elim fun i q => (Heap.get?_eq_some h a o).mpr ⟨by rw [q.1, Nat.zero_add, ← Array.getElem?_toList]; exact q.2.1, q.2.2⟩
noncomputable def allOk (K : Frag) : Bool := kOk K && (kOk2 K && (tab.all (fun p => fnOk K p.1 p.2) && ((K.lookup sysModules).isSome && (gval K "law" == some (.ref 631)))))
noncomputable def XJ (_ : Str → Option Value) (h : Heap) : Prop := ∃ K : Frag, K.In h ∧ allOk K = true
theorem rvs_ints {P : Params} {W : Wd} {n : Nat} {h : Heap} : ∀ {xs : List Int} {vs : List Value}, WellAll P h vs (xs.map .int) → RVs P W n (xs.map .int) vs
 | [], _, .nil => rfl
 | x :: xs, _, .cons (.int _ t) r => ⟨_, _, rfl, ⟨t, rfl⟩, rvs_ints r⟩
theorem tok_of_mem {K : Frag} (h : tab.all (fun p => fnOk K p.1 p.2) = true) : ∀ a fn, T a = some fn → fnOk K a fn = true := fun a fn e => List.all_eq_true.mp h (a, fn) (mem_look (show tab.lookup a = some fn from e))
theorem law_call {prog p : Program} {w : World} {loose : List Str} {mean : ExcName → Option Value} {s : Shared} {mg mb : Str → Option Value} {K : Frag} {fa l : Addr} {xs : List Int} {vs : List Value} {Q : Value → Shared → Prop} {E : Value → Shared → Prop} (X : K.In s.heap) (hK : allOk K = true) (T₀ : Top p loose mean mg mb s.heap)
  (hmg : mg "law" = some (.ref fa)) (hl : s.heap.get? l = some { cls := .type "list", data := .seq vs.toArray }) (hv : WellAll w.params s.heap vs (xs.map .int)) (hz : xs.length ≤ 63) (hQ : ∀ h' tk, (∀ b o, s.heap.get? b = some o → h'.get? b = some o) → Q (.bool true) ⟨h', s.gens, s.drawn, tk, s.os⟩) :
  wpAny (model prog w) callerA (PySem.call (.ref fa) [.ref l]) Q E s := by
 obtain ⟨h1, hK⟩ := andS hK
 obtain ⟨h2, hK⟩ := andS hK
 obtain ⟨h3, hK⟩ := andS hK
 obtain ⟨h4, h5⟩ := andS hK
 obtain ⟨o, ho⟩ := Option.isSome_iff_exists.mp h4
 have G : Gd w K s.heap mg mb := ⟨⟨T₀.g, T₀.b, T₀.nolimit, o, X _ _ ho⟩, KX.of K X h1, T₀.builtins⟩
 have hfa : fa = 631 := by
  rcases gval_GN G (beq_iff_eq.mp h5) (by decide) with h | h
  ·rw [hmg] at h; cases h; rfl
  ·rw [hmg] at h; cases h.1
 subst hfa
 have W : Wd := ⟨fun _ => 0, fun _ => 0, fun a => s.heap.get? a⟩
 have I : Inv prog w s.heap ⟨fun _ => 0, fun _ => 0, fun a => s.heap.get? a⟩ st0 s.heap := ⟨fun a o e => e, fun a o e => e, fun i hi => absurd hi (Nat.not_lt_zero i), fun i hi => absurd hi (Nat.not_lt_zero i), fun i _ hi => absurd hi (Nat.not_lt_zero i), fun i hi => absurd hi (Nat.not_lt_zero i)⟩
 obtain ⟨v, st', e, e1, _⟩ := law_true (n := 0) (xs := xs) (by omega)
 subst e1
 refine wpAny_call (calls_ok G (KY.of h2) (tok_of_mem h3) 61 true 631 [.lst (xs.map .int)] [.ref l] _ st0 s callerA I ⟨fun env he => (by cases he), fun e he => (by cases he), fun ea he => (by cases he)⟩ ⟨by decide +kernel, by decide +kernel, fun _ => rfl, _, rfl⟩ ⟨_, _, rfl, ⟨l, vs, _, rfl, hl, ⟨⟨rfl, _, rfl⟩, rfl, rfl⟩, rvs_ints hv⟩, rfl⟩ _ _ e _ (fun a b W' h' tk hr I' S R => ?_) fun c e W' h' tk hr => by cases hr)
 cases hr
 cases R
 exact hQ h' tk fun b o hb => S.exact b o hb (fun ⟨i, hi, _⟩ => absurd hi (Nat.not_lt_zero i)) (.inl nmn)
theorem joined (left : LeftO PySem.Challenge.pw_nn0140_01 qV looseL (fun s => allOk (fragOf s.heap)) (fun _ => ()) (fun _ => ()) 8948) (said : PySem.Challenge.rw_nn0140_01.wellSaid = true) : PySem.Challenge.rw_nn0140_01.Holds := by
 refine holds_law said fun said => holds_open (q := qV) (loose := looseL) (XP := XJ) (YP := fun _ _ => True) (kwd := []) left (fun _ _ _ => trivial) (fun _ _ _ _ _ => trivial) (fun s e => ⟨_, fragOf_in s.heap, e⟩) (fun mg h h' ⟨K, X, e⟩ hk => ⟨K, fun a o q => hk _ _ (X a o q), e⟩) rfl rfl rfl (fun s _ => recFacts_of rfl) rfl said (by decide +kernel) ⟨rfl, rfl, rfl, rfl, rfl, by decide +kernel⟩ ⟨[.list []], by decide +kernel, by decide +kernel⟩ ?_
 intro w s₀ s₁ mg mb G Y fa o pm cd doc dV kV ho hd hcd hD hmg hg args vals as hpre hlay hrd hwl hlo
 obtain ⟨K, X, hK⟩ := G.X
 obtain ⟨hsh, hcond⟩ := pre_splitW hpre
 obtain ⟨xs, rfl⟩ := args_of hsh
 have hz := len_of hcond
 cases hwl with
 | cons w1 w2 =>
  cases w2
  cases w1 with
  | list hl hv =>
   refine law_call X hK G.T hmg hl hv hz fun h' tk hk => ?_
   exact ⟨.inl ⟨_, _, [], rfl, fun _ => rfl, .bool true, by kernel_rfl, fun _ => ⟨List.nodup_nil, fun a ha => absurd ha nmn⟩⟩, .of_keep hk, rfl, .of_eq hg⟩
end Mine
end
section
open PySem PySem.W PyProof.Rows
namespace Mine
theorem left : LeftO PySem.Challenge.pw_nn0140_01 qV looseL (fun s => allOk (fragOf s.heap)) (fun _ => ()) (fun _ => ()) 8948 := by
 refine left_of rfl rfl (fun _ => rfl) fun w os => ?_
 rw [PySem.W.Fast.te10156331382660048174, PySem.W.Fast.te11892475500146522536, PySem.W.Fast.te4187177175401517315, PySem.W.Fast.te14364793385576792824, PySem.W.Fast.te6613529449190102663]
 kernel_rfl
set_option maxHeartbeats 0 in
theorem law_well : PySem.Challenge.rw_nn0140_01.wellSaid = true := by
 unfold OpenLaw.wellSaid
 repeat' (first | with_reducible refine look_both ?_ ?_ | unfold OpenRow.wellSaid | unfold OpenRow.partSaid | unfold looksOpen)
 all_goals decide +kernel
theorem whole : PySem.Challenge.rw_nn0140_01.Holds := joined left law_well
end Mine
end
theorem PySem.Challenge.cw_nn0140_01_holds : PySem.Challenge.rw_nn0140_01.Holds :=
 Mine.whole
